import PyProof.Rows.All
import Wide.All
import OpenK.AllK
import Wide.FinOn
import Lean
import PySem.Challenge.RW_no0352_01
set_option Elab.async false
section
open PySem PySem.W PyProof.Rows
namespace Mine
set_option maxRecDepth 100000
set_option maxHeartbeats 8000000
theorem keepF {p : Prop} (_ : False) (h : p) : p := h
section
local macro_rules | `(tactic| kernel_rfl) => `(tactic| first | (k_extra "c2"; (refine Mine.keepF (by assumption) ?_); rfl) | (k_extra "c1"; (k_with "c2" => skip); rfl) | ((fail_if_success k_extra "c1"); (k_with "c1" => skip); rfl))
theorem hd.tw17311223219408574766 : True := trivial
theorem hd.tw17087091549796120035 : True := trivial
theorem hd.tw15616948245753086127 : True := trivial
theorem hd.tw978945382295711627 : True := trivial
theorem hd.tw5961118342813265553 : True := trivial
theorem hd.tw6293948785866598258 : True := trivial
theorem hd.tw9641152695372364146 : True := trivial
theorem hd.tw9571657101598308349 : True := trivial
theorem hd.tw5148922909946612681 : True := trivial
theorem hd.tw14620637471214046174 : True := trivial
theorem hd.tw2867327485932766208 : True := trivial
theorem hd.tw15103106377680225435 : True := trivial
theorem hd.tw3259873300814134281 : True := trivial
theorem hd.tw11117797201346649052 : True := trivial
theorem hd.tw221497870779424605 : True := trivial
theorem hd.tw8343274005884668182 : True := trivial
theorem hd.tw12936449754285732098 : True := trivial
theorem hd.tw7752767780024739350 : True := trivial
theorem hd.tw17650839729002327288 : True := trivial
theorem hd.tw5373601922739893978 : True := trivial
theorem hd.tw7540655947842036084 : True := trivial
theorem hd.tw12588582704262371052 : True := trivial
theorem hd.tw11953376511379268794 : True := trivial
theorem hd.tw11893437276241958245 : True := trivial
theorem hd.tw15368132723985388332 : True := trivial
theorem hd.tw13518370688599389936 : True := trivial
theorem hd.tw2167537188350426706 : True := trivial
theorem hd.tw6545403380812914513 : True := trivial
theorem hd.tw12173100003817136821 : True := trivial
theorem hd.tw4115565904173853331 : True := trivial
theorem hd.tw10111801491309104144 : True := trivial
theorem hd.tw12901994302517312135 : True := trivial
theorem hd.tw13225837485096350037 : True := trivial
theorem hd.tw16037735763661986305 : True := trivial
theorem hd.tw3759623122121258479 : True := trivial
theorem hd.tw9421340871869096474 : True := trivial
theorem hd.tw701787995468756871 : True := trivial
theorem hd.tw7914949630228597729 : True := trivial
theorem hd.tw5976494177984508443 : True := trivial
theorem hd.tw9277588360372424766 : True := trivial
theorem hd.tw5978321128707920903 : True := trivial
theorem hd.tw6060742912462422084 : True := trivial
theorem hd.tw13483081372092288885 : True := trivial
theorem hd.tw10258999931320997221 : True := trivial
theorem hd.tw3279029449911389043 : True := trivial
theorem hd.tw10170382586518783626 : True := trivial
theorem hd.tw17574625026820762457 : True := trivial
theorem hd.tw17673860158736603733 : True := trivial
theorem hd.tw10403243965636340961 : True := trivial
theorem hd.tw4225703048834024713 : True := trivial
theorem hd.tw4172343393113369950 : True := trivial
theorem hd.tw16945582573551092051 : True := trivial
theorem hd.tw4015398097383911347 : True := trivial
theorem hd.tw10542889226490290971 : True := trivial
theorem hd.tw9386895884608548742 : True := trivial
theorem hd.tw13828106393651249627 : True := trivial
theorem hd.tw10727248033764811480 : True := trivial
theorem hd.tw4851647983119433812 : True := trivial
theorem hd.tw4272726840584523970 : True := trivial
theorem hd.tw16828841361933241965 : True := trivial
theorem hd.tw15595854959937240912 : True := trivial
theorem hd.tw6196171512934965099 : True := trivial
theorem hd.tw16288478824909460495 : True := trivial
theorem hd.tw17950676927832955104 : True := trivial
theorem hd.tw10458740792067480800 : True := trivial
theorem hd.tw17183224562656869120 : True := trivial
theorem hd.tw1506431575118746342 : True := trivial
theorem hd.tw15833661619300960221 : True := trivial
theorem hd.tw3530705653197291679 : True := trivial
theorem hd.tw6820862383352777685 : True := trivial
theorem hd.tw8716120427605611371 : True := trivial
theorem hd.tw8960069828448710407 : True := trivial
theorem hd.tw15837987909243819085 : True := trivial
theorem hd.tw6276725880618359904 : True := trivial
theorem hd.tw991583007596301734 : True := trivial
theorem hd.tw3789350110615891812 : True := trivial
theorem hd.tw4478166936697009375 : True := trivial
theorem hd.tw9170477692918782315 : True := trivial
theorem hd.tw18103342009636024947 : True := trivial
theorem hd.tw15967140613478806237 : True := trivial
theorem hd.tw189712035060473897 : True := trivial
theorem hd.tw11210553801493137410 : True := trivial
theorem hd.tw1413172679324656950 : True := trivial
theorem hd.tw9719896912496429819 : True := trivial
theorem hd.tw5902613922787404954 : True := trivial
theorem hd.tw1580110805410547442 : True := trivial
theorem hd.tw8268277133935991078 : True := trivial
theorem hd.tw5130813555471234732 : True := trivial
theorem hd.tw16259696140248634718 : True := trivial
theorem hd.tw15089522573102190283 : True := trivial
theorem hd.tw11917015161858427179 : True := trivial
theorem hd.tw2386827423013361158 : True := trivial
theorem hd.tw13790719812936386609 : True := trivial
theorem hd.tw6164396464334811476 : True := trivial
theorem hd.tw464777395874653626 : True := trivial
theorem hd.tw6895732191639561206 : True := trivial
theorem hd.tw1222794163293265305 : True := trivial
theorem hd.tw4360684699965382250 : True := trivial
theorem hd.tw8735263284916673568 : True := trivial
theorem hd.tw17893044597097874663 : True := trivial
theorem hd.tw13267510147771200024 : True := trivial
theorem hd.tw17681399029576232318 : True := trivial
theorem hd.tw8959176491354863721 : True := trivial
theorem hd.tw7023726343779634624 : True := trivial
theorem hd.tw5511420028821071320 : True := trivial
theorem hd.tw10949625832625181284 : True := trivial
theorem hd.tw5657824000916062451 : True := trivial
theorem hd.tw6555240042291301478 : True := trivial
theorem hd.tw6411954120941647267 : True := trivial
theorem hd.tw6785817131721698500 : True := trivial
theorem hd.tw12070051907170230399 : True := trivial
theorem hd.tw11232374478483605306 : True := trivial
theorem hd.tw1800889605409440832 : True := trivial
theorem hd.tw9960721518486171458 : True := trivial
theorem hd.tw16007149819294483003 : True := trivial
theorem hd.tw1997569388931296116 : True := trivial
theorem hd.tw17054507655720011243 : True := trivial
theorem hd.tw1760603350576429475 : True := trivial
theorem hd.tw16868993833207775613 : True := trivial
theorem hd.tw4402725079659364252 : True := trivial
theorem hd.tw1600037746751723098 : True := trivial
theorem hd.tw8458067239894703972 : True := trivial
theorem hd.tw8226494294326810461 : True := trivial
theorem hd.tw13770079208771991547 : True := trivial
theorem hd.tw728884934406724761 : True := trivial
theorem hd.tw3451239065008710300 : True := trivial
theorem hd.tw11319097763535126812 : True := trivial
theorem hd.tw15759970867653108152 : True := trivial
theorem hd.tw15411387601460861337 : True := trivial
theorem hd.tw9673543361469618366 : True := trivial
theorem hd.tw8457440626546761165 : True := trivial
theorem hd.tw6082411064634330575 : True := trivial
theorem hd.tw9566141503761928105 : True := trivial
theorem hd.tw3571134770919094901 : True := trivial
theorem hd.tw16345102440705955213 : True := trivial
theorem hd.tw16240987189780228909 : True := trivial
theorem hd.tw7754304195085646258 : True := trivial
theorem hd.tw3493717111155160527 : True := trivial
theorem hd.tw22551697357593593 : True := trivial
theorem hd.tw2380272775587480882 : True := trivial
theorem hd.tw3410444493855829464 : True := trivial
theorem hd.tw6767318904944593275 : True := trivial
theorem hd.tw10601615944963115059 : True := trivial
theorem hd.tw7296583596125217682 : True := trivial
theorem hd.tw12271959270614036898 : True := trivial
theorem hd.tw3646829019195819677 : True := trivial
theorem hd.tw18264374347568628810 : True := trivial
theorem hd.tw17177331786930743035 : True := trivial
theorem hd.tw7289634563603522867 : True := trivial
theorem hd.tw17542962492245011380 : True := trivial
theorem hd.tw17252143746492648416 : True := trivial
theorem hd.tw11162318198679636149 : True := trivial
theorem hd.tw11136197038861592535 : True := trivial
theorem hd.tw11660266114150955751 : True := trivial
theorem hd.tw7865762390884039853 : True := trivial
theorem hd.tw6442067068224118133 : True := trivial
theorem hd.tw16477043939570097188 : True := trivial
theorem hd.tw3229955645248102723 : True := trivial
theorem hd.tw10603584201595350602 : True := trivial
theorem hd.tw2887051446865420828 : True := trivial
theorem hd.tw2068664650715991707 : True := trivial
theorem hd.tw5190246844813560578 : True := trivial
theorem hd.tw14103535550066685397 : True := trivial
theorem hd.tw26425463804135960 : True := trivial
theorem hd.tw3350844169311001129 : True := trivial
theorem hd.tw7028611270464810887 : True := trivial
theorem hd.tw16064382804478563927 : True := trivial
theorem hd.tw6305734824756694309 : True := trivial
theorem hd.tw2708950531961675432 : True := trivial
theorem hd.tw12023040214023829324 : True := trivial
set_option Elab.async true in
theorem hd : False → PySem.Challenge.rw_no0352_01.Holds := by
  intro f
  w_on; o_law; k_head
  case hw => w_witness2
  case hc => (exfalso; assumption)
end
/-- waits for what is written above, then turns the modes back -/
theorem quiet_hd : _root_.Mine.hd.view_1_40 = _root_.Mine.hd.view_1_40 ∧ _root_.Mine.hd.heap_1_39 = _root_.Mine.hd.heap_1_39 := by k_with_none; w_top off; exact ⟨rfl, rfl⟩
end Mine
end
open PySem PySem.W PyProof.Rows PySem.Calls
section
set_option maxRecDepth 100000
namespace Mine
abbrev Ar (dp un : Nat) (gd : Option (List Code)) (fr : Option (List Env)) : Around := { handled := none, depth := dp, frames := fr, guards := gd, units := un }
section
variable {w : World} {mean : ExcName → Option Value} {mg mb : Str → Option Value} {A : Around} {s : Shared} {E Q : Value → Shared → Prop}
    {name qual : Str} {params : Arguments} {body : List Stmt} {scope : Scope} {dV kV doc pm cdv ct oc : Value} {an od : Option Addr} {osl : Array (Option Value)} {f : Addr} {pos : List Value} {kw : List (Str × Value)} {binds : List (Str × Value)}
/-- a def without cells is entered -/
theorem enter
    (X : (Mine.hd.heap_1_39 w.params).In s.heap) (T : Top Mine.hd.view_1_40 (looseW Mine.hd.view_1_40 [Str.ofString "PostError", Str.ofString "encoded"]) mean mg mb s.heap)
    (ho : (Mine.hd.heap_1_39 w.params).lookup f = some ⟨oc, od, .func (fnOf name qual params body scope dV kV doc pm an cdv ct), osl⟩) (hcd : codeIn (Mine.hd.heap_1_39 w.params) cdv qual = true) (hroom : A.depth < recursionLimit)
    (hbind : BindsTo s (fnOf name qual params body scope dV kV doc pm an cdv ct) ⟨pos, kw⟩ binds) (hloc : ∀ y ∈ binds, scope.names.lookup y.1 = some .local)
    (h : ∀ L' h₁, Fr s.heap L' h₁ (fun y => binds.reverse.lookup y) → News s.heap L' h₁ [] →
      wpAny (model PySem.Challenge.rw_no0352_01.row.prog w) (A.deeper (envOf qual scope L' f cdv)) (execs body (envOf qual scope L' f cdv))
        (fun fl s' => Q (match fl with | .ret v => v | _ => .none) s') (fun _ _ => False)
        { s with heap := h₁, toks := s.toks + binds.length })
    (hco : scope.isCoroutine = false) (hgen : scope.isGenerator = false) (hk : scope.kind = .function)
    (hcell : ∀ x ∈ scope.names, x.2 ≠ .cell) : wpAny (model PySem.Challenge.rw_no0352_01.row.prog w) A (call (.ref f) pos kw) Q E s := by
  refine wpAny_call (codeAny_call_def (fd := fnOf name qual params body scope dV kV doc pm an cdv ct) (body := body) (binds := binds) hroom (X _ _ ho) rfl T.nolimit (codeRec_of X hcd) rfl hbind hcell hloc (fun h₁ hns hk₁ => ?_) hco hgen hk)
  refine wpAny_mono (h s.heap.objs.size h₁ ⟨hns, hk₁, Nat.le_refl _⟩ News.nil) (fun fl s' hl => hl) fun _ _ y => y.elim
/-- a def with cells is entered -/
theorem enterC
    (X : (Mine.hd.heap_1_39 w.params).In s.heap) (T : Top Mine.hd.view_1_40 (looseW Mine.hd.view_1_40 [Str.ofString "PostError", Str.ofString "encoded"]) mean mg mb s.heap)
    (ho : (Mine.hd.heap_1_39 w.params).lookup f = some ⟨oc, od, .func (fnOf name qual params body scope dV kV doc pm an cdv ct), osl⟩) (hcd : codeIn (Mine.hd.heap_1_39 w.params) cdv qual = true) (hroom : A.depth < recursionLimit)
    (hbind : BindsTo s (fnOf name qual params body scope dV kV doc pm an cdv ct) ⟨pos, kw⟩ binds)
    (hkind : (binds.all fun y => scope.names.lookup y.1 == some .local || scope.names.lookup y.1 == some .cell) = true)
    (hnd : ((cellsFrom 0 scope.names []).map (·.1)).Nodup)
    (h : ∀ L' h₁ tk cells, Fr s.heap L' h₁ (bindL (envOfC qual scope L' f cdv).kindOf binds fun _ => none) → News s.heap L' h₁ (cells ++ []) →
      CellsAre (bindC (envOfC qual scope L' f cdv).kindOf binds fun _ => none) (cellsFrom (L' + 1) scope.names []) cells →
      wpAny (model PySem.Challenge.rw_no0352_01.row.prog w) (A.deeper (envOfC qual scope L' f cdv)) (execs body (envOfC qual scope L' f cdv))
        (fun fl s' => Q (match fl with | .ret v => v | _ => .none) s') (fun _ _ => False)
        { s with heap := h₁, toks := tk })
    (hco : scope.isCoroutine = false) (hgen : scope.isGenerator = false) (hk : scope.kind = .function) :
    wpAny (model PySem.Challenge.rw_no0352_01.row.prog w) A (call (.ref f) pos kw) Q E s := by
  refine wpAny_call (codeAny_call_function hroom (X _ _ ho) rfl hco hgen rfl (codeRec_of X hcd) (hbind _ _ _ _ ?_))
  refine wpAny_newFunctionEnv_cells hk (kindsX hkind _) fun env' he s' x => ?_
  subst he
  refine ⟨T.nolimit.keeps x.toInCall.keep, codeAny_func ?_⟩
  obtain ⟨h₁, tk, rfl, _⟩ := x.done
  have hk₁ := x.toInCall.keep
  obtain ⟨cells, NC, Y⟩ := Cl.news (h₀ := s.heap) (Nat.le_refl _) fun n c hm => ⟨x.cell n c (lookup_of_mem_nodup (cellsFrom_names scope.names 0 (s.heap.objs.size + 1) [] [] rfl ▸ hnd) hm), x.above n c hm⟩
  refine wpAny_mono (h s.heap.objs.size h₁ tk cells ⟨x.toInCall.ns, hk₁, Nat.le_refl _⟩ (by rw [List.append_nil]; exact NC) Y) (fun fl s' hl => hl) fun _ _ y => y.elim
theorem enterC1 {x1 : Str} {c1 : Option Value} {lm : Str → Option Value}
    (X : (Mine.hd.heap_1_39 w.params).In s.heap) (T : Top Mine.hd.view_1_40 (looseW Mine.hd.view_1_40 [Str.ofString "PostError", Str.ofString "encoded"]) mean mg mb s.heap)
    (ho : (Mine.hd.heap_1_39 w.params).lookup f = some ⟨oc, od, .func (fnOf name qual params body scope dV kV doc pm an cdv ct), osl⟩) (hcd : codeIn (Mine.hd.heap_1_39 w.params) cdv qual = true) (hroom : A.depth < recursionLimit)
    (hbind : BindsTo s (fnOf name qual params body scope dV kV doc pm an cdv ct) ⟨pos, kw⟩ binds)
    (hkind : (binds.all fun y => scope.names.lookup y.1 == some .local || scope.names.lookup y.1 == some .cell) = true)
    (hnd : ((cellsFrom 0 scope.names []).map (·.1)).Nodup)
    (hcs : ∀ n, cellsFrom n scope.names [] = [(x1, n)])
    (hlm : ∀ L', bindL (envOfC qual scope L' f cdv).kindOf binds (fun _ => none) = lm)
    (hc1 : ∀ L', bindC (envOfC qual scope L' f cdv).kindOf binds (fun _ => none) x1 = c1)
    (h : ∀ L' h₁ tk o1, Fr s.heap L' h₁ lm → News s.heap L' h₁ [(L' + 1, o1)] → o1.data = .cell c1 →
      wpAny (model PySem.Challenge.rw_no0352_01.row.prog w) (A.deeper (envOfC qual scope L' f cdv)) (execs body (envOfC qual scope L' f cdv))
        (fun fl s' => Q (match fl with | .ret v => v | _ => .none) s') (fun _ _ => False)
        { s with heap := h₁, toks := tk })
    (hco : scope.isCoroutine = false) (hgen : scope.isGenerator = false) (hk : scope.kind = .function) :
    wpAny (model PySem.Challenge.rw_no0352_01.row.prog w) A (call (.ref f) pos kw) Q E s := by
  refine enterC X T ho hcd hroom hbind hkind hnd (fun L' h₁ tk cells F N Y => ?_) hco hgen hk
  rw [hcs] at Y
  obtain ⟨o1, hE, d1⟩ := CellsAre.one Y
  subst hE
  rw [hlm] at F
  rw [hc1] at d1
  exact h L' h₁ tk o1 F (by simpa using N) d1
theorem enterC2 {x1 x2 : Str} {c1 c2 : Option Value} {lm : Str → Option Value}
    (X : (Mine.hd.heap_1_39 w.params).In s.heap) (T : Top Mine.hd.view_1_40 (looseW Mine.hd.view_1_40 [Str.ofString "PostError", Str.ofString "encoded"]) mean mg mb s.heap)
    (ho : (Mine.hd.heap_1_39 w.params).lookup f = some ⟨oc, od, .func (fnOf name qual params body scope dV kV doc pm an cdv ct), osl⟩) (hcd : codeIn (Mine.hd.heap_1_39 w.params) cdv qual = true) (hroom : A.depth < recursionLimit)
    (hbind : BindsTo s (fnOf name qual params body scope dV kV doc pm an cdv ct) ⟨pos, kw⟩ binds)
    (hkind : (binds.all fun y => scope.names.lookup y.1 == some .local || scope.names.lookup y.1 == some .cell) = true)
    (hnd : ((cellsFrom 0 scope.names []).map (·.1)).Nodup)
    (hcs : ∀ n, cellsFrom n scope.names [] = [(x1, n + 1), (x2, n)])
    (hlm : ∀ L', bindL (envOfC qual scope L' f cdv).kindOf binds (fun _ => none) = lm)
    (hc1 : ∀ L', bindC (envOfC qual scope L' f cdv).kindOf binds (fun _ => none) x1 = c1)
    (hc2 : ∀ L', bindC (envOfC qual scope L' f cdv).kindOf binds (fun _ => none) x2 = c2)
    (h : ∀ L' h₁ tk o1 o2, Fr s.heap L' h₁ lm → News s.heap L' h₁ [(L' + 1 + 1, o1), (L' + 1, o2)] → o1.data = .cell c1 → o2.data = .cell c2 →
      wpAny (model PySem.Challenge.rw_no0352_01.row.prog w) (A.deeper (envOfC qual scope L' f cdv)) (execs body (envOfC qual scope L' f cdv))
        (fun fl s' => Q (match fl with | .ret v => v | _ => .none) s') (fun _ _ => False)
        { s with heap := h₁, toks := tk })
    (hco : scope.isCoroutine = false) (hgen : scope.isGenerator = false) (hk : scope.kind = .function) :
    wpAny (model PySem.Challenge.rw_no0352_01.row.prog w) A (call (.ref f) pos kw) Q E s := by
  refine enterC X T ho hcd hroom hbind hkind hnd (fun L' h₁ tk cells F N Y => ?_) hco hgen hk
  rw [hcs] at Y
  obtain ⟨o1, o2, hE, d1, d2⟩ := CellsAre.two Y
  subst hE
  rw [hlm] at F
  rw [hc1] at d1
  rw [hc2] at d2
  exact h L' h₁ tk o1 o2 F (by simpa using N) d1 d2
theorem enterC3 {x1 x2 x3 : Str} {c1 c2 c3 : Option Value} {lm : Str → Option Value}
    (X : (Mine.hd.heap_1_39 w.params).In s.heap) (T : Top Mine.hd.view_1_40 (looseW Mine.hd.view_1_40 [Str.ofString "PostError", Str.ofString "encoded"]) mean mg mb s.heap)
    (ho : (Mine.hd.heap_1_39 w.params).lookup f = some ⟨oc, od, .func (fnOf name qual params body scope dV kV doc pm an cdv ct), osl⟩) (hcd : codeIn (Mine.hd.heap_1_39 w.params) cdv qual = true) (hroom : A.depth < recursionLimit)
    (hbind : BindsTo s (fnOf name qual params body scope dV kV doc pm an cdv ct) ⟨pos, kw⟩ binds)
    (hkind : (binds.all fun y => scope.names.lookup y.1 == some .local || scope.names.lookup y.1 == some .cell) = true)
    (hnd : ((cellsFrom 0 scope.names []).map (·.1)).Nodup)
    (hcs : ∀ n, cellsFrom n scope.names [] = [(x1, n + 2), (x2, n + 1), (x3, n)])
    (hlm : ∀ L', bindL (envOfC qual scope L' f cdv).kindOf binds (fun _ => none) = lm)
    (hc1 : ∀ L', bindC (envOfC qual scope L' f cdv).kindOf binds (fun _ => none) x1 = c1)
    (hc2 : ∀ L', bindC (envOfC qual scope L' f cdv).kindOf binds (fun _ => none) x2 = c2)
    (hc3 : ∀ L', bindC (envOfC qual scope L' f cdv).kindOf binds (fun _ => none) x3 = c3)
    (h : ∀ L' h₁ tk o1 o2 o3, Fr s.heap L' h₁ lm → News s.heap L' h₁ [(L' + 1 + 2, o1), (L' + 1 + 1, o2), (L' + 1, o3)] → o1.data = .cell c1 → o2.data = .cell c2 → o3.data = .cell c3 →
      wpAny (model PySem.Challenge.rw_no0352_01.row.prog w) (A.deeper (envOfC qual scope L' f cdv)) (execs body (envOfC qual scope L' f cdv))
        (fun fl s' => Q (match fl with | .ret v => v | _ => .none) s') (fun _ _ => False)
        { s with heap := h₁, toks := tk })
    (hco : scope.isCoroutine = false) (hgen : scope.isGenerator = false) (hk : scope.kind = .function) :
    wpAny (model PySem.Challenge.rw_no0352_01.row.prog w) A (call (.ref f) pos kw) Q E s := by
  refine enterC X T ho hcd hroom hbind hkind hnd (fun L' h₁ tk cells F N Y => ?_) hco hgen hk
  rw [hcs] at Y
  obtain ⟨o1, o2, o3, hE, d1, d2, d3⟩ := CellsAre.three Y
  subst hE
  rw [hlm] at F
  rw [hc1] at d1
  rw [hc2] at d2
  rw [hc3] at d3
  exact h L' h₁ tk o1 o2 o3 F (by simpa using N) d1 d2 d3
end
end Mine
end
section
open PySem.Spec
set_option maxRecDepth 100000
namespace Mine
section
variable {prog : Program} {w : World} {A : Around} {E : Value → Shared → Prop} {s : Shared} {h₀ : Heap} {L : Addr} {m : Str → Option Value} {env : Env}
  {elt : Expr} {x : Str} {scope : Scope} {cl : List (Str × Addr)} {S : List (Addr × Obj) → Prop} {P : Nat → Value → Prop} {Fin : List Value → List (Addr × Obj) → Prop}
/-- a place where the walk is to stop -/
def Hold (P : Prop) : Prop := P
/-- a comprehension's turns by an invariant over what is built and the ledger -/
theorem rest_inv {n : Nat} (J : Nat → List Value → List (Addr × Obj) → Prop) {news : List (Addr × Obj)} (h0 : J 0 [] news)
    (turn : ∀ i ys news v I oI C oC D m₂ h tk (E' : Value → Shared → Prop), i < n → J i ys news → P i v → LCg.NsObj oC m₂ → m₂ x = some v → Fr h₀ L h m → News h₀ L h ((I, oI) :: (C, oC) :: (D, LCg.lst ys) :: news) → LCg.Off3 I C D news → ((@Ne Nat I C) ∧ (@Ne Nat I D) ∧ (@Ne Nat C D)) →
      wpAny (model prog w) A (eval elt (compEnvC scope cl C env)) (LCg.CompEnd h₀ L m { s with heap := h, toks := tk } I oI C oC D (LCg.lst ys) S (fun y news' => J (i + 1) (ys ++ [y]) news')) E' { s with heap := h, toks := tk })
    (fin : ∀ ys news, J n ys news → Fin ys news) : LCg.CompRest prog w A h₀ L m env elt x scope cl s S P Fin n 0 [] news := by
  have key : ∀ (j i : Nat) (ys : List Value) (news : List (Addr × Obj)), i + j = n → J i ys news → LCg.CompRest prog w A h₀ L m env elt x scope cl s S P Fin j i ys news := by
    intro j
    induction j with
    | zero => intro i ys news e hJ; exact LCg.CompRest.zero (fin ys news (by rw [show n = i by (first | lia | omega)]; exact hJ))
    | succ j ih =>
      intro i ys news e hJ
      refine LCg.CompRest.succ ?_
      intro v I oI C oC D m₂ h tk E' hv hC hx F N off ne
      refine wpAny_mono (turn i ys news v I oI C oC D m₂ h tk E' (by (first | lia | omega)) hJ hv hC hx F N off ne) (fun y s₂ hq => ?_) fun _ _ e => e
      obtain ⟨h', tk', nw, e', F', N', off', hS, hJ'⟩ := hq
      exact ⟨h', tk', nw, e', F', N', off', hS, ih (i + 1) _ nw (by (first | lia | omega)) hJ'⟩
  exact key n 0 [] news (by (first | lia | omega)) h0
/-- where a comprehension's iterator stands, whatever it walks -/
inductive SrcW (prog : Program) (w : World) (A : Around) (h₀ : Heap) (L : Addr) (m : Str → Option Value) (env : Env) (elt : Expr) (x : Str) (scope : Scope) (cl : List (Str × Addr)) (Fin : Shared → List Value → List (Addr × Obj) → Prop) (it : Value) (s₂ : Shared) : Prop
  | mk (I : Addr) (fp : List Addr) (n : Nat) (P : Nat → Value → Prop) (St : Nat → Heap → Prop) (S : List (Addr × Obj) → Prop) (news : List (Addr × Obj)) :
    it = .ref I →
    Walks prog w A I fp [I] n P St →
    n ≤ sizeLine →
    (∀ i h, St i h → ∃ o, h.get? I = some o) →
    (∀ i h h' o nw, St i h → h.get? I = some o → h'.get? I = some o → (∀ b o, h₀.get? b = some o → h'.get? b = some o) → News h₀ L h' nw → S nw → St i h') →
    St 0 s₂.heap →
    (∀ b ∈ fp, b < s₂.heap.objs.size) →
    Fr h₀ L s₂.heap m →
    News h₀ L s₂.heap news →
    L ≠ I →
    h₀.get? I = none →
    (∀ p ∈ news, p.1 ≠ I) →
    S news →
    LCg.CompRest prog w A h₀ L m env elt x scope cl s₂ S P (Fin s₂) n 0 [] news → SrcW prog w A h₀ L m env elt x scope cl Fin it s₂
theorem ListComp_W {iter : Expr} {px : Pos} {pos : Pos} {Q : Value → Shared → Prop} (hclos : closureFor scope env = pure cl) (hcell : ∀ y ∈ scope.names, y.2 ≠ .cell) (hkind : scope.kind = .function)
    (hnames : ∀ y ∈ scope.names, y.2 = .local → scope.names.lookup y.1 = some .local) (hx : scope.names.lookup x = some .local)
    (h : wpAny (model prog w) A (eval iter env) (fun xv s₁ => wpAny (model prog w) A (pyIter xv) (SrcW prog w A h₀ L m env elt x scope cl (fun s₂ => LCg.FinE h₀ L m s₂ Q)) E s₁) E s)
    (hs : ∀ x, foldedSetIterable iter env x = pure x := by intro _; rfl) :
    wpAny (model prog w) A (eval (.ListComp elt [⟨.Name x px, iter, [], 0⟩] scope pos) env) Q E s := by
  rw [eval_ListComp]
  refine wpAny_comprehension_free (use := none) rfl hs hclos hkind hnames (wpAny_mono h (fun xv s₁ h₁ => wpAny_mono h₁ (fun it s₂ h₂ => ?_) fun _ _ e => e) fun _ _ e => e)
  obtain ⟨I, fp, n, P, St, S, news, rfl, W, hsz, hIo, hSt, hst, hfp, F, N, hIL, hI0, off, hS, R⟩ := h₂
  refine LCg.block_U (RR := fun acc C => compPost (model prog w) A E none Q acc C) W hsz hIo hSt hcell hkind hx hst hfp F N hIL hI0 off hS R ?_
  intro D C h' tk m' ys news' F' N' o1 hn hC₀ hD₀ hCL hDL hCD offC fin
  refine ⟨m', hn, fun h'' hs'' => fin D h'' tk (F'.change hs'' hCL hC₀) (fun p hp => ?_) o1⟩
  refine ⟨hs''.extBut _ _ ?_ (N' p hp).1, (N' p hp).2⟩
  rcases List.mem_cons.mp hp with rfl | hp
  · exact Ne.symm hCD
  · exact offC p hp
theorem Assign_ListComp_W {iter : Expr} {y : Str} {px py : Pos} {pos spos : Pos} {Q : Flow → Shared → Prop} (hLe : env.locals = L)
    (hsw : swapsWith (.ListComp elt [⟨.Name x px, iter, [], 0⟩] scope pos) (some (.Name y py)) spos.line env = pure true)
    (hclos : closureFor scope env = pure cl) (hcell : ∀ z ∈ scope.names, z.2 ≠ .cell) (hkind : scope.kind = .function)
    (hnames : ∀ z ∈ scope.names, z.2 = .local → scope.names.lookup z.1 = some .local) (hx : scope.names.lookup x = some .local)
    (hy : env.kindOf y = some .local) (hp : (env.scope.kind == .class || (env.scope.kind == .module && env.locals != env.globals)) = false)
    (h : wpAny (model prog w) A (eval iter env) (fun xv s₁ => wpAny (model prog w) A (pyIter xv) (SrcW prog w A h₀ L m env elt x scope cl (fun s₂ => LCg.FinA h₀ L m s₂ y Q)) E s₁) E s)
    (hs : ∀ x, foldedSetIterable iter env x = pure x := by intro _; rfl) :
    wpAny (model prog w) A (exec (.Assign [.Name y py] (.ListComp elt [⟨.Name x px, iter, [], 0⟩] scope pos) spos) env) Q E s := by
  subst hLe
  rw [exec_Assign_Name_used _ _ _ _ hsw]
  refine wpAny_bind (wpAny_standAt (wpAny_bind ?_))
  show wpAny _ A (do let _ ← comprehension (.ListComp elt [⟨.Name x px, iter, [], 0⟩] scope pos) scope env _ (newList []) false (eval iter env) (some (assign (.Name y py) env))) _ _ s
  refine wpAny_bind (wpAny_mono (wpAny_comprehension_free (use := some (assign (.Name y py) env)) (Q := fun _ s' => Q .next s') rfl hs hclos hkind hnames
    (wpAny_mono h (fun xv s₁ h₁ => wpAny_mono h₁ (fun it s₂ h₂ => ?_) fun _ _ e => e) fun _ _ e => e)) (fun _ s' hq => wpAny_pure (wpAny_pure hq)) fun _ _ e => e)
  obtain ⟨I, fp, n, P, St, S, news, rfl, W, hsz, hIo, hSt, hst, hfp, F, N, hIL, hI0, off, hS, R⟩ := h₂
  refine LCg.block_U (RR := fun acc C => compPost (model prog w) A E (some (assign (.Name y py) env)) (fun _ s' => Q .next s') acc C) W hsz hIo hSt hcell hkind hx hst hfp F N hIL hI0 off hS R ?_
  intro D C h' tk m' ys news' F' N' o1 hn hC₀ hD₀ hCL hDL hCD offC fin
  show wpAny _ A (assign (.Name y py) env (.ref D)) _ _ _
  refine wpAny_assign_Name (wpAny_storeName_local hy F'.ns (fun h₂ hn₂ hs₂ => ?_) hp)
  have hL₀ : h₀.get? env.locals = none := Heap.get?_none_of_le F'.above
  have F₂ : Fr h₀ env.locals h₂ (fun z => if z = y then some (.ref D) else m z) := ⟨hn₂, fun b o e => hs₂.extBut b o (fun q => by rw [q, hL₀] at e; cases e) (F'.keep b o e), F'.above⟩
  refine ⟨m', hn.sameBut hs₂ hCL, fun h'' hs'' => fin D h'' _ (F₂.change hs'' hCL hC₀) (fun p hp => ?_) o1⟩
  have z : h₂.get? p.1 = some p.2 := hs₂.extBut _ _ (N' p hp).2.1 (N' p hp).1
  refine ⟨hs''.extBut _ _ ?_ z, (N' p hp).2⟩
  rcases List.mem_cons.mp hp with rfl | hp
  · exact Ne.symm hCD
  · exact offC p hp
end
section
variable {prog : Program} {w : World} {A : Around} {E : Value → Shared → Prop} {s : Shared} {h₀ : Heap} {L : Addr} {m : Str → Option Value} {env : Env}
  {elt : Expr} {x : Str} {scope : Scope} {cl : List (Str × Addr)} {Fin : Shared → List Value → List (Addr × Obj) → Prop} {news : List (Addr × Obj)}
/-- the source is bytes -/
theorem src_bytes {b : Array UInt8} {t : Tok} (hh : A.handled = none) (F : Fr h₀ L s.heap m) (N : News h₀ L s.heap news) (hz : b.size ≤ sizeLine)
    (R : ∀ g, LCg.CompRest prog w A h₀ L m env elt x scope cl { s with heap := g } (fun _ => True) (fun i v => ∃ c u, b[i]? = some c ∧ v = .int (c.toNat : Int) u) (Fin { s with heap := g }) b.size 0 [] news) :
    wpAny (model prog w) A (pyIter (.bytes b t)) (SrcW prog w A h₀ L m env elt x scope cl Fin) E s := by
  refine KBw.pyIter_bytes ?_
  refine ⟨s.heap.objs.size, [s.heap.objs.size], b.size, _, _, fun _ => True, news, rfl, KBw.walks hh s.heap.objs.size b t, hz, fun i h st => ?_, fun i h h' o nw st e e' _ _ _ => ?_, ⟨_, Heap.get?_push_size _ rfl, rfl, rfl⟩, fun b hb => ?_,
    F.push _, fun p hp => ⟨Heap.get?_push_of_some _ (N p hp).1, (N p hp).2⟩, Nat.ne_of_lt F.ns.lt, next_is_new F, fun p hp => Nat.ne_of_lt (Heap.lt_size (N p hp).1), trivial, R _⟩
  · obtain ⟨o, e, _⟩ := st; exact ⟨o, e⟩
  · obtain ⟨o', q, r⟩ := st; rw [e] at q; cases q; exact ⟨o, e', r⟩
  · rw [List.mem_singleton.mp hb]
    show s.heap.objs.size < (s.heap.push _).objs.size
    rw [Heap.size_push]; exact Nat.lt_succ_self _
/-- the source is a range -/
theorem src_range {r : Addr} {a b c : Int} {t u v : Tok} {n : Nat} (hh : A.handled = none) (F : Fr h₀ L s.heap m) (N : News h₀ L s.heap news) (hr : IsRange s.heap r a b c t u v) (hsm : Builtin.Range.small a b c = true)
    (hn : Builtin.Range.rangeSize a b c = ((n : Nat) : Int)) (hz : n ≤ sizeLine)
    (R : ∀ g, LCg.CompRest prog w A h₀ L m env elt x scope cl { s with heap := g } (fun _ => True) (fun i v => ∃ t, v = .int (a + (i : Int) * c) t) (Fin { s with heap := g }) n 0 [] news) :
    wpAny (model prog w) A (pyIter (.ref r)) (SrcW prog w A h₀ L m env elt x scope cl Fin) E s := by
  refine wpAny_pyIter_range hr hsm ?_
  refine ⟨s.heap.objs.size, [s.heap.objs.size], n, _, _, fun _ => True, news, rfl, Walks.range hh s.heap.objs.size a c n, hz, fun i h st => ⟨_, st⟩, fun i h h' o nw st e e' _ _ _ => ?_, ?_, fun b hb => ?_,
    F.push _, fun p hp => ⟨Heap.get?_push_of_some _ (N p hp).1, (N p hp).2⟩, Nat.ne_of_lt F.ns.lt, next_is_new F, fun p hp => Nat.ne_of_lt (Heap.lt_size (N p hp).1), trivial, R _⟩
  · have st' : h.get? s.heap.objs.size = some _ := st
    show h'.get? s.heap.objs.size = some _
    rw [e', ← e]; exact st'
  · show IsRangeIter _ _ _ _ _
    rw [hn]; simpa using Heap.get?_push_size _ rfl
  · rw [List.mem_singleton.mp hb]
    show s.heap.objs.size < (s.heap.push _).objs.size
    rw [Heap.size_push]; exact Nat.lt_succ_self _
/-- the source is a list, of the ledger or of what stood before -/
theorem src_list {ax : Addr} {its : Array Value} (hh : A.handled = none) (F : Fr h₀ L s.heap m) (N : News h₀ L s.heap news) (S : LCg.SrcAt h₀ ax its news) (hz : its.size ≤ sizeLine)
    (R : ∀ g, LCg.CompRest prog w A h₀ L m env elt x scope cl { s with heap := g } (LCg.SrcAt h₀ ax its) (fun i v => its[i]? = some v) (Fin { s with heap := g }) its.size 0 [] news) :
    wpAny (model prog w) A (pyIter (.ref ax)) (SrcW prog w A h₀ L m env elt x scope cl Fin) E s := by
  have hl := S.list F.keep N
  have hlt : ax < s.heap.objs.size := by obtain ⟨_, e, _⟩ := hl; exact Heap.lt_size e
  refine wpAny_pyIter_list hl ?_
  refine ⟨s.heap.objs.size, [s.heap.objs.size, ax], its.size, _, _, LCg.SrcAt h₀ ax its, news, rfl, Walks.list hh s.heap.objs.size ax (Nat.ne_of_lt hlt) its, hz, fun i h st => by obtain ⟨o, e, _⟩ := st.1; exact ⟨o, e⟩, LCg.list_st,
    ⟨⟨_, Heap.get?_push_size _ rfl, rfl, rfl⟩, hl.push _⟩, fun b hb => ?_, F.push _, fun p hp => ⟨Heap.get?_push_of_some _ (N p hp).1, (N p hp).2⟩, Nat.ne_of_lt F.ns.lt, next_is_new F, fun p hp => Nat.ne_of_lt (Heap.lt_size (N p hp).1), S, R _⟩
  show b < (s.heap.push _).objs.size
  rw [Heap.size_push]
  rcases List.mem_cons.mp hb with rfl | hb
  · exact Nat.lt_succ_self _
  · rw [List.mem_singleton.mp hb]; exact Nat.lt_succ_of_lt hlt
end
section
variable {prog : Program} {w : World} {A : Around} {E : Value → Shared → Prop} {s : Shared} {env : Env} {h₀ : Heap} {x : Str} {body : List Stmt} {Q : Flow → Shared → Prop}
/-- a for over a range of any step, by an invariant -/
theorem iter_rangeN {r : Addr} {a b c : Int} {t u v : Tok} {n : Nat} {m₀ : Str → Option Value} {news : List (Addr × Obj)} (J : Nat → (Str → Option Value) → List (Addr × Obj) → Prop)
    (hh : A.handled = none) (hr : IsRange s.heap r a b c t u v) (hsm : Builtin.Range.small a b c = true) (hn : Builtin.Range.rangeSize a b c = ((n : Nat) : Int)) (F : Fr h₀ env.locals s.heap m₀) (N : News h₀ env.locals s.heap news) (hj : J 0 m₀ news)
    (turn : ∀ i t m₁ news₁ h tk own, i < n → OwnOff own (news.map (·.1)) → J i m₁ news₁ → Fr h₀ env.locals h (fun y => if y = x then some (.int (a + (i : Int) * c) t) else m₁ y) → News h₀ env.locals h (news₁ ++ own) →
      wpAny (model prog w) A (execs body env) (InvPostN h₀ env.locals (J (i + 1)) own (news.map (·.1)) { s with heap := h, toks := tk } Q) E { s with heap := h, toks := tk })
    (done : ∀ m₁ news₁ h tk, J n m₁ news₁ → Fr h₀ env.locals h m₁ → News h₀ env.locals h news₁ → Q .next { s with heap := h, toks := tk }) :
    wpAny (model prog w) A (pyIter (.ref r)) (fun it s₂ => LoopAtV prog w A h₀ env x body Q E it s₂) E s := by
  refine wpAny_pyIter_range hr hsm ?_
  refine loop_invN J (Walks.range hh s.heap.objs.size a c n) ?_ ?_ ?_ ?_ ?_ (F.push _) (fun p hp => ⟨Heap.get?_push_of_some _ (N p hp).1, (N p hp).2⟩) hj ?_ ?_
  · intro hm
    exact absurd F.ns.lt ((List.mem_singleton.mp hm) ▸ Nat.lt_irrefl _)
  · intro b' hb
    rw [List.mem_singleton.mp hb]
    exact next_is_new F
  · intro p hp hI
    exact absurd (Heap.lt_size (N p hp).1) ((List.mem_singleton.mp hI) ▸ Nat.lt_irrefl _)
  · intro p hp hI
    exact absurd (Heap.lt_size (N p hp).1) ((List.mem_singleton.mp hI) ▸ Nat.lt_irrefl _)
  · show IsRangeIter _ _ _ _ _
    rw [hn]; simpa using Heap.get?_push_size _ rfl
  · rintro i v m₁ news₁ h tk own hi ⟨t', rfl⟩ _ hoff hJ F₁ N₁
    exact turn i t' m₁ news₁ h tk own hi hoff hJ F₁ N₁
  · exact done
end
section
variable {prog : Program} {w : World} {A : Around} {E : Value → Shared → Prop} {s : Shared} {h₀ : Heap} {L : Addr} {m : Str → Option Value} {env : Env}
  {elt : Expr} {x : Str} {scope : Scope} {cl : List (Str × Addr)}
theorem ListComp_H {iter : Expr} {px : Pos} {pos : Pos} {Q : Value → Shared → Prop} (F₀ : Fr h₀ L s.heap m) (hclos : closureFor scope env = pure cl) (hcell : ∀ y ∈ scope.names, y.2 ≠ .cell) (hkind : scope.kind = .function)
    (hnames : ∀ y ∈ scope.names, y.2 = .local → scope.names.lookup y.1 = some .local) (hx : scope.names.lookup x = some .local)
    (h : wpAny (model prog w) A (eval iter env) (fun xv s₁ => Hold (wpAny (model prog w) A (pyIter xv) (SrcW prog w A h₀ L m env elt x scope cl (fun s₂ => LCg.FinE h₀ L m s₂ Q)) E s₁)) E s)
    (hs : ∀ x, foldedSetIterable iter env x = pure x) :
    wpAny (model prog w) A (eval (.ListComp elt [⟨.Name x px, iter, [], 0⟩] scope pos) env) Q E s :=
  ListComp_W hclos hcell hkind hnames hx h hs
theorem Assign_ListComp_H {iter : Expr} {y : Str} {px py : Pos} {pos spos : Pos} {Q : Flow → Shared → Prop} (F₀ : Fr h₀ L s.heap m) (hLe : env.locals = L)
    (hsw : swapsWith (.ListComp elt [⟨.Name x px, iter, [], 0⟩] scope pos) (some (.Name y py)) spos.line env = pure true)
    (hclos : closureFor scope env = pure cl) (hcell : ∀ z ∈ scope.names, z.2 ≠ .cell) (hkind : scope.kind = .function)
    (hnames : ∀ z ∈ scope.names, z.2 = .local → scope.names.lookup z.1 = some .local) (hx : scope.names.lookup x = some .local)
    (hy : env.kindOf y = some .local) (hp : (env.scope.kind == .class || (env.scope.kind == .module && env.locals != env.globals)) = false)
    (h : wpAny (model prog w) A (eval iter env) (fun xv s₁ => Hold (wpAny (model prog w) A (pyIter xv) (SrcW prog w A h₀ L m env elt x scope cl (fun s₂ => LCg.FinA h₀ L m s₂ y Q)) E s₁)) E s)
    (hs : ∀ x, foldedSetIterable iter env x = pure x) :
    wpAny (model prog w) A (exec (.Assign [.Name y py] (.ListComp elt [⟨.Name x px, iter, [], 0⟩] scope pos) spos) env) Q E s :=
  Assign_ListComp_W hLe hsw hclos hcell hkind hnames hx hy hp h hs
theorem For_H {Q : Flow → Shared → Prop} {px pos : Pos} {iter : Expr} {body : List Stmt} (F₀ : Fr h₀ env.locals s.heap m) (hx : env.kindOf x = some .local)
    (hp : (env.scope.kind == .class || (env.scope.kind == .module && env.locals != env.globals)) = false)
    (h : wpAny (model prog w) A (eval iter env) (fun xv s₁ => Hold (wpAny (model prog w) A (pyIter xv) (fun it s₂ => LoopAtV prog w A h₀ env x body Q E it s₂) E s₁)) E s)
    (hs : ∀ x, foldedSetIterable iter env x = pure x)
    (hE : PassesOwn (model prog w) A env E) :
    wpAny (model prog w) A (exec (.For (.Name x px) iter body [] pos) env) Q E s := For_invV h₀ hx hp h hs hE
theorem and63 {a : Int} {t u : Tok} {Q : Value → Shared → Prop} (h : Q (.int (a % 64) s.toks) { s with toks := s.toks + 1 }) : wpAny (model prog w) A (binaryOp .BitAnd (.int a t) (.int 63 u)) Q E s :=
  and_int (by rw [bitAnd_m6]; exact h)
theorem and255 {a : Int} {t u : Tok} {Q : Value → Shared → Prop} (h : Q (.int (a % 256) s.toks) { s with toks := s.toks + 1 }) : wpAny (model prog w) A (binaryOp .BitAnd (.int a t) (.int 255 u)) Q E s :=
  and_int (by rw [bitAnd_m8]; exact h)
theorem shr_to {a n r : Int} {t u : Tok} {Q : Value → Shared → Prop} (hn : 0 ≤ n) (e : a / 2 ^ n.toNat = r) (h : Q (.int r s.toks) { s with toks := s.toks + 1 }) : wpAny (model prog w) A (binaryOp .RShift (.int a t) (.int n u)) Q E s :=
  rshift_int hn (by
    have hp : (0 : Int) ≤ 2 ^ n.toNat := Int.le_of_lt (Int.pow_pos (by decide))
    rw [Int.fdiv_eq_ediv_of_nonneg _ hp, e]; exact h)
theorem len_to {b : Array UInt8} {t : Tok} {k : Int} {Q : Value → Shared → Prop} (hk : (b.size : Int) = k) (hfit : b.size ≤ 1099511627776) (h : Q (.int k (s.toks + 1)) { s with toks := s.toks + 1 + 1 }) : wpAny (model prog w) A (call (.builtin "len") [.bytes b t]) Q E s :=
  len_bytes hfit (by rw [hk]; exact h)
end
section
variable {h₀ h' : Heap} {L : Addr}
theorem inv_end {J : (Str → Option Value) → List (Addr × Obj) → Prop} {m' : Str → Option Value} {own nx all : List (Addr × Obj)} {adr : List Addr} {s₁ : Shared} {tk : Nat} (F : Fr h₀ L h' m') (N : News h₀ L h' all)
    (hj : J m' nx) (e : all = nx ++ own) (ha : nx.map (·.1) = adr) : InvEndN h₀ L J own adr s₁ { s₁ with heap := h', toks := tk } :=
  InvEndN.intro F N hj ha (fun p hp => by rw [e]; exact List.mem_append_left _ hp) (fun p hp => by rw [e]; exact List.mem_append_right _ hp)
theorem fr_done {h : Heap} {x : Str} {m₁ m₀ : Str → Option Value} (hm : ∀ z, z ≠ x → m₁ z = m₀ z) (F : Fr h₀ L h m₁) : Fr h₀ L h (fun z => if z = x then m₁ z else m₀ z) := by rw [done_none hm]; exact F
theorem fr_turn {h : Heap} {x : Str} {m₁ m₀ : Str → Option Value} {v : Value} (hm : ∀ z, z ≠ x → m₁ z = m₀ z) (F : Fr h₀ L h (fun z => if z = x then some v else m₁ z)) : Fr h₀ L h (fun z => if z = x then some v else m₀ z) := by rw [← map_none hm]; exact F
end
open Builtin.Range in
theorem small_of {a b c : Int} (ha : -1000000000 ≤ a ∧ a ≤ 1000000000) (hb : -1000000000 ≤ b ∧ b ≤ 1000000000) (hc : c ≠ 0) (hc2 : -1000000000 ≤ c ∧ c ≤ 1000000000) : small a b c = true := by
  have key : ∀ x y : Int, 0 ≤ x → x ≤ 2000000000 → 0 < y → 0 ≤ x / y ∧ x / y ≤ 2000000000 := fun x y h0 h1 hy =>
    ⟨Int.ediv_nonneg h0 (Int.le_of_lt hy), Int.le_trans (Int.ediv_le_self _ h0) h1⟩
  have hs : 0 ≤ rangeSize a b c ∧ rangeSize a b c ≤ 2000000001 := by
    unfold rangeSize
    split
    · split
      · have := key (b - a - 1) c (by (first | lia | omega)) (by (first | lia | omega)) (by (first | lia | omega)); (first | lia | omega)
      · (first | lia | omega)
    · split
      · have := key (a - b - 1) (-c) (by (first | lia | omega)) (by (first | lia | omega)) (by (first | lia | omega)); (first | lia | omega)
      · (first | lia | omega)
  simp only [small, rangeFitsLong, Bool.and_eq_true, Bool.or_eq_true, decide_eq_true_eq, beq_iff_eq]
  refine ⟨⟨⟨⟨by (first | lia | omega), by (first | lia | omega)⟩, by (first | lia | omega)⟩, by (first | lia | omega)⟩, .inr ?_⟩
  split <;> simp only [Bool.and_eq_true, decide_eq_true_eq] <;> (first | lia | omega)
open Builtin.Range in
theorem size_down {a b : Int} {n : Nat} (h : a - b = n) : rangeSize a b (-1) = ((n : Nat) : Int) := by
  unfold rangeSize
  rw [if_neg (by decide)]
  split
  · rw [show (- -1 : Int) = 1 by decide, Int.ediv_one]; (first | lia | omega)
  · (first | lia | omega)
open Builtin.Range in
theorem size_up {a b c : Int} {n : Nat} (hc : 0 < c) (h : ((n : Int) - 1) * c < b - a) (h2 : b - a ≤ n * c) : rangeSize a b c = ((n : Nat) : Int) := by
  unfold rangeSize
  rw [if_pos hc]
  split
  · have : (b - a - 1) / c = (n : Int) - 1 := by
      refine (Int.ediv_emod_unique hc (r := b - a - 1 - ((n : Int) - 1) * c)).mpr ⟨?_, ?_, ?_⟩ |>.1
      · rw [Int.mul_comm c]; (first | lia | omega)
      · (first | lia | omega)
      · rw [Int.sub_mul] at h ⊢; (first | lia | omega)
    (first | lia | omega)
  · cases n with
    | zero => rfl
    | succ n =>
      exfalso
      have : 0 ≤ ((n + 1 : Nat) : Int) - 1 := by (first | lia | omega)
      have := Int.mul_nonneg this (Int.le_of_lt hc)
      (first | lia | omega)
end Mine
end
section
open PySem.Spec
set_option maxRecDepth 100000
namespace Mine
section
variable {h₀ h h' : Heap} {L : Addr} {m : Str → Option Value} {news : List (Addr × Obj)} {D : Addr} {o : Obj}
/-- an object that a call has made goes onto the ledger -/
theorem news_more (F : Fr h₀ L h m) (N : News h₀ L h news) (hk : ∀ b o, h.get? b = some o → h'.get? b = some o) (hD : h.get? D = none) (hg : h'.get? D = some o) : News h₀ L h' ((D, o) :: news) := fun p hp => by
  rcases List.mem_cons.mp hp with rfl | hp
  · refine ⟨hg, fun q => ?_, ?_⟩
    · obtain ⟨oL, _, _, e, _⟩ := F.ns
      have q' : D = L := q
      rw [q', e] at hD; cases hD
    · cases e : h₀.get? D with
      | none => rfl
      | some o' => rw [F.keep _ _ e] at hD; cases hD
  · exact N.grown hk p hp
theorem ne_new {a : Addr} {o' : Obj} (N : News h₀ L h news) (hm : (a, o') ∈ news) (hD : h.get? D = none) : D ≠ a := fun q => by
  have := (N _ hm).1
  rw [← q, hD] at this; cases this
theorem apart_cons {a : Addr} {p : Addr × Obj} {l : List (Addr × Obj)} (h : p.1 ≠ a) (hl : ∀ q ∈ l, q.1 ≠ a) : ∀ q ∈ p :: l, q.1 ≠ a := fun q hq => by
  rcases List.mem_cons.mp hq with rfl | hq
  · exact h
  · exact hl q hq
theorem apart_nil {a : Addr} : ∀ q ∈ ([] : List (Addr × Obj)), q.1 ≠ a := fun _ h => nomatch h
end
theorem clip_nn {n : Nat} {i : Int} (h : 0 ≤ i) : clipAt n i = min i.toNat n := by
  have := clipAt_cast n i
  rw [if_neg (by (first | lia | omega))] at this
  (first | lia | omega)
theorem slice_list {α : Type} (ks : List α) (lo hi : Nat) (h : lo ≤ hi) : (ks.drop (min lo ks.length)).take (min hi ks.length - min lo ks.length) = (ks.drop lo).take (hi - lo) := by
  by_cases h1 : lo ≤ ks.length
  · rw [Nat.min_eq_left h1]
    by_cases h2 : hi ≤ ks.length
    · rw [Nat.min_eq_left h2]
    · rw [Nat.min_eq_right (by (first | lia | omega)), List.take_of_length_le (by rw [List.length_drop]; (first | lia | omega)), List.take_of_length_le (by rw [List.length_drop]; (first | lia | omega))]
  · rw [Nat.min_eq_right (by (first | lia | omega)), Nat.min_eq_right (by (first | lia | omega)), List.drop_of_length_le (by (first | lia | omega)), List.drop_of_length_le (by (first | lia | omega))]
    simp
section
variable {prog : Program} {w : World} {A : Around} {E : Value → Shared → Prop} {s : Shared} {value slice : PySem.Expr} {b : Array UInt8} {t : Tok} {h₀ : Heap} {L : Addr} {m : PySem.Str → Option Value} {news : List (Addr × Obj)} {Q : Value → Shared → Prop} {ks : List Int}
theorem slice_nn {lo hi : Int} {tl th : Tok} (hF : Fr h₀ L s.heap m) (hN : News h₀ L s.heap news) (hk : KBw.bInts b = ks) (h0 : 0 ≤ lo) (h1 : lo ≤ hi) (hz : ks.length ≤ 16777216)
    (h : ∀ b' h' t' k, Fr h₀ L h' m → News h₀ L h' news → KBw.bInts b' = (ks.drop lo.toNat).take (hi - lo).toNat → Q (.bytes b' t') { s with heap := h', toks := k })
    (hs : subscripted slice false (.bytes b t) (.ref s.heap.objs.size) = operate [.ref s.heap.objs.size, .bytes b t] (getItem (.bytes b t) (.ref s.heap.objs.size)))
    (ht : ∀ r, letTemporaryGo value (.bytes b t) r = pure ()) :
    wpAny (model prog w) A (subscriptTail value slice (.bytes b t) (.ref s.heap.objs.size)) Q E { s with heap := s.heap.push { cls := .type "slice", data := .fields #[.int lo tl, .int hi th, .none] } } :=
  KBc.slice_K hF hN hk (.int _ _) (.int _ _) hz (fun h' t' k F N e => h _ h' t' k F N (by
    rw [e]
    show (ks.drop (clipAt ks.length lo)).take (clipAt ks.length hi - clipAt ks.length lo) = _
    rw [clip_nn h0, clip_nn (by (first | lia | omega)), slice_list _ _ _ (by (first | lia | omega)), show hi.toNat - lo.toNat = (hi - lo).toNat by (first | lia | omega)])) hs ht
theorem slice_to {hi : Int} {th : Tok} (hF : Fr h₀ L s.heap m) (hN : News h₀ L s.heap news) (hk : KBw.bInts b = ks) (h1 : 0 ≤ hi) (hz : ks.length ≤ 16777216)
    (h : ∀ b' h' t' k, Fr h₀ L h' m → News h₀ L h' news → KBw.bInts b' = ks.take hi.toNat → Q (.bytes b' t') { s with heap := h', toks := k })
    (hs : subscripted slice false (.bytes b t) (.ref s.heap.objs.size) = operate [.ref s.heap.objs.size, .bytes b t] (getItem (.bytes b t) (.ref s.heap.objs.size)))
    (ht : ∀ r, letTemporaryGo value (.bytes b t) r = pure ()) :
    wpAny (model prog w) A (subscriptTail value slice (.bytes b t) (.ref s.heap.objs.size)) Q E { s with heap := s.heap.push { cls := .type "slice", data := .fields #[.none, .int hi th, .none] } } :=
  KBc.slice_K hF hN hk .none (.int _ _) hz (fun h' t' k F N e => h _ h' t' k F N (by
    rw [e]
    show (ks.drop 0).take (clipAt ks.length hi - 0) = _
    rw [clip_nn h1, List.drop_zero, Nat.sub_zero]
    by_cases h2 : hi.toNat ≤ ks.length
    · rw [Nat.min_eq_left h2]
    · rw [Nat.min_eq_right (by (first | lia | omega)), List.take_of_length_le (Nat.le_refl _), List.take_of_length_le (by (first | lia | omega))])) hs ht
theorem slice_from {lo : Int} {tl : Tok} (hF : Fr h₀ L s.heap m) (hN : News h₀ L s.heap news) (hk : KBw.bInts b = ks) (h1 : 0 ≤ lo) (hz : ks.length ≤ 16777216)
    (h : ∀ b' h' t' k, Fr h₀ L h' m → News h₀ L h' news → KBw.bInts b' = ks.drop lo.toNat → Q (.bytes b' t') { s with heap := h', toks := k })
    (hs : subscripted slice false (.bytes b t) (.ref s.heap.objs.size) = operate [.ref s.heap.objs.size, .bytes b t] (getItem (.bytes b t) (.ref s.heap.objs.size)))
    (ht : ∀ r, letTemporaryGo value (.bytes b t) r = pure ()) :
    wpAny (model prog w) A (subscriptTail value slice (.bytes b t) (.ref s.heap.objs.size)) Q E { s with heap := s.heap.push { cls := .type "slice", data := .fields #[.int lo tl, .none, .none] } } :=
  KBc.slice_K hF hN hk (.int _ _) .none hz (fun h' t' k F N e => h _ h' t' k F N (by
    rw [e]
    show (ks.drop (clipAt ks.length lo)).take (ks.length - clipAt ks.length lo) = _
    rw [clip_nn h1]
    by_cases h2 : lo.toNat ≤ ks.length
    · rw [Nat.min_eq_left h2, List.take_of_length_le (by rw [List.length_drop]; (first | lia | omega))]
    · rw [Nat.min_eq_right (by (first | lia | omega)), List.drop_of_length_le (Nat.le_refl _), List.drop_of_length_le (by (first | lia | omega))]; simp)) hs ht
end
theorem ints_snoc {f : Nat → Int} {i : Nat} {ys : List Value} {t : Tok} (h : IntsAre ys ((List.range i).map f)) : IntsAre (ys ++ [.int (f i) t]) ((List.range (i + 1)).map f) := by
  rw [List.range_succ, List.map_append]
  exact IntsAre.append h (.cons _ _ .nil)
end Mine
end
section
open PySem.Spec LCg
open Sem (wp)
set_option maxRecDepth 100000
namespace Mine
section
variable {prog : Program} {w : World} {A : Around} {E : Value → Shared → Prop} {R : Result → Shared → Prop} {s : Shared} {env : Env}
  {elt it1 it2 : Expr} {x y : Str} {px py pos : Pos} {scope : Scope}
theorem two_turn0 {it acc : Value} :
    compTurn (.ListComp elt [⟨.Name x px, it1, [], 0⟩, ⟨.Name y py, it2, [], 0⟩] scope pos) 0 it acc env = (standAt it1.pos >>= fun _ => pyNext it >>= fun r => match r with
      | none => pure (.done .next)
      | some v => letOwnedTupleGo (.Name x px) it v >>= fun _ => assign (.Name x px) env v >>= fun _ =>
        eval it2 env >>= fun xv => standAt it2.pos >>= fun _ => foldedSetIterable it2 env xv >>= fun xv => holding [xv] (pyIter xv) >>= fun it' =>
          runOwn (.compStart (.ListComp elt [⟨.Name x px, it1, [], 0⟩, ⟨.Name y py, it2, [], 0⟩] scope pos) 1 it' acc env) env >>= fun _ =>
          again (.compLoop (.ListComp elt [⟨.Name x px, it1, [], 0⟩, ⟨.Name y py, it2, [], 0⟩] scope pos) 0 it acc env)) := by rfl
theorem two_turn1 {it acc : Value} :
    compTurn (.ListComp elt [⟨.Name x px, it1, [], 0⟩, ⟨.Name y py, it2, [], 0⟩] scope pos) 1 it acc env = (standAt it2.pos >>= fun _ => pyNext it >>= fun r => match r with
      | none => pure (.done .next)
      | some v => letOwnedTupleGo (.Name y py) it v >>= fun _ => assign (.Name y py) env v >>= fun _ =>
        (eval elt env >>= fun xv => call (.builtin "list.append") [acc, xv] >>= fun _ => pure ()) >>= fun _ =>
          again (.compLoop (.ListComp elt [⟨.Name x px, it1, [], 0⟩, ⟨.Name y py, it2, [], 0⟩] scope pos) 1 it acc env)) := by rfl
theorem two_loop1 {it acc : Value} (I : Nat → Shared → Prop)
    (turn : ∀ n s, I n s → wpAny (model prog w) A (pyNext it) (fun r s₁ => match r with
      | none => R (.ok .next) s₁
      | some v => wpAny (model prog w) A (assign (.Name y py) env v) (fun _ s₂ => wpAny (model prog w) A (eval elt env) (fun xv s₃ =>
          wpAny (model prog w) A (call (.builtin "list.append") [acc, xv]) (fun _ s₄ => ∃ m, m < n ∧ I m s₄) (fun _ _ => False) s₃) (fun _ _ => False) s₂) (fun _ _ => False) s₁) (fun _ _ => False) s)
    (n : Nat) (h : I n s) :
    codeAny (model prog w) A (.compLoop (.ListComp elt [⟨.Name x px, it1, [], 0⟩, ⟨.Name y py, it2, [], 0⟩] scope pos) 1 it acc env) R s := by
  refine codeAny_loop rfl I (fun n s hI => ?_) n h
  show wpAny _ A ((compTurn (.ListComp elt [⟨.Name x px, it1, [], 0⟩, ⟨.Name y py, it2, [], 0⟩] scope pos) 1 it acc env).onRaise (fun x => do noteFrame x env; theTreesLotGoes x)) _ _ s
  refine wpAny_noted ?_
  rw [two_turn1]
  refine wpAny_bind (wpAny_standAt (wpAny_bind (wpAny_mono (turn n s hI) (fun r s₁ h₁ => ?_) fun _ _ h' => h'.elim)))
  cases r with
  | none => exact wpAny_pure h₁
  | some v =>
    refine wpAny_bind (wpAny_of_eq (show letOwnedTupleGo (.Name y py) it v = pure () from rfl) ?_)
    refine wpAny_bind (wpAny_mono h₁ (fun _ s₂ h₂ => ?_) fun _ _ h' => h'.elim)
    exact wpAny_bind (wpAny_bind (wpAny_mono h₂ (fun x s₄ h₄ => wpAny_bind (wpAny_mono h₄ (fun _ s₅ h₅ => wpAny_pure (wpAny_pure ⟨rfl, h₅⟩)) fun _ _ h' => h'.elim)) fun _ _ h' => h'.elim))
theorem two_loop0 {it acc : Value} (I : Nat → Shared → Prop) (hs : ∀ v, foldedSetIterable it2 env v = pure v)
    (turn : ∀ n s, I n s → wpAny (model prog w) A (pyNext it) (fun r s₁ => match r with
      | none => R (.ok .next) s₁
      | some v => wpAny (model prog w) A (assign (.Name x px) env v) (fun _ s₂ => wpAny (model prog w) A (eval it2 env) (fun xv s₃ =>
          wpAny (model prog w) A (pyIter xv) (fun it' s₄ => codeAny (model prog w) A (.compStart (.ListComp elt [⟨.Name x px, it1, [], 0⟩, ⟨.Name y py, it2, [], 0⟩] scope pos) 1 it' acc env)
            (fun r s₅ => match r with | .ok _ => ∃ m, m < n ∧ I m s₅ | .error _ => False) s₄) (fun _ _ => False) s₃) (fun _ _ => False) s₂) (fun _ _ => False) s₁) (fun _ _ => False) s)
    (n : Nat) (h : I n s) :
    codeAny (model prog w) A (.compLoop (.ListComp elt [⟨.Name x px, it1, [], 0⟩, ⟨.Name y py, it2, [], 0⟩] scope pos) 0 it acc env) R s := by
  refine codeAny_loop rfl I (fun n s hI => ?_) n h
  show wpAny _ A ((compTurn (.ListComp elt [⟨.Name x px, it1, [], 0⟩, ⟨.Name y py, it2, [], 0⟩] scope pos) 0 it acc env).onRaise (fun x => do noteFrame x env; theTreesLotGoes x)) _ _ s
  refine wpAny_noted ?_
  rw [two_turn0]
  refine wpAny_bind (wpAny_standAt (wpAny_bind (wpAny_mono (turn n s hI) (fun r s₁ h₁ => ?_) fun _ _ h' => h'.elim)))
  cases r with
  | none => exact wpAny_pure h₁
  | some v =>
    refine wpAny_bind (wpAny_of_eq (show letOwnedTupleGo (.Name x px) it v = pure () from rfl) ?_)
    refine wpAny_bind (wpAny_mono h₁ (fun _ s₂ h₂ => ?_) fun _ _ h' => h'.elim)
    refine wpAny_bind (wpAny_mono h₂ (fun xv s₃ h₃ => wpAny_bind (wpAny_standAt (wpAny_bind (wpAny_of_eq (hs xv) (wpAny_bind (wpAny_holding (wpAny_mono h₃ (fun it' s₄ h₄ => ?_) fun _ _ h' => h'.elim))))))) fun _ _ h' => h'.elim)
    refine wpAny_bind (wpAny_runOwn (codeAny_mono h₄ fun r s₅ h₅ => ?_))
    cases r with
    | ok f => exact wpAny_pure ⟨rfl, h₅⟩
    | error e => exact h₅.elim
theorem two_start1 {it acc : Value}
    (h0 : codeAny (model prog w) A (.compLoop (.ListComp elt [⟨.Name x px, it1, [], 0⟩, ⟨.Name y py, it2, [], 0⟩] scope pos) 1 it acc env) R s)
    (h : wpAny (model prog w) A (pyIter it) (fun it' s' => codeAny (model prog w) A (.compLoop (.ListComp elt [⟨.Name x px, it1, [], 0⟩, ⟨.Name y py, it2, [], 0⟩] scope pos) 1 it' acc env) R s') (fun _ _ => False) s) :
    codeAny (model prog w) A (.compStart (.ListComp elt [⟨.Name x px, it1, [], 0⟩, ⟨.Name y py, it2, [], 0⟩] scope pos) 1 it acc env) R s := by
  refine codeAny_of_tree ?_
  show wpAny _ _ ((compStart (.ListComp elt [⟨.Name x px, it1, [], 0⟩, ⟨.Name y py, it2, [], 0⟩] scope pos) 1 it acc env).onRaise (fun x => do noteFrame x env; standAt theWindowsPlace)) _ _ s
  refine wpAny_notedAt ?_
  unfold compStart
  show wpAny _ _ (ask >>= _) _ _ s
  refine wpAny_bind (wpAny_askSetting (wpAny_ite ?_))
  split
  · first
      | exact wpAny_bind (wpAny_pure (wpAny_pure (And.intro rfl h0)))
      | exact wpAny_pure (And.intro rfl h0)
  · first
      | exact wpAny_bind (wpAny_rule (wpAny_bind (wpAny_standAt (wpAny_bind (wpAny_mono h (fun it' s' h' => wpAny_pure (And.intro rfl h')) fun _ _ x => x.elim)))))
      | (refine wpAny_bind (wpAny_rule ?_); show wpAny _ _ (standAt it2.pos >>= _) _ _ s; exact wpAny_bind (wpAny_standAt (wpAny_bind (wpAny_mono h (fun it' s' h' => wpAny_pure (And.intro rfl h')) fun _ _ x => x.elim))))
end
/-- what a comprehension of two clauses makes -/
def flat2 (k : Nat) (g : Int → Nat → Int) (ks : List Int) : List Int := (ks.map fun a => (List.range k).map (g a)).flatten
theorem flat2_snoc {k : Nat} {g : Int → Nat → Int} {ks : List Int} {i : Nat} {a : Int} (h : ks[i]? = some a) : flat2 k g (ks.take (i + 1)) = flat2 k g (ks.take i) ++ (List.range k).map (g a) := by
  unfold flat2
  rw [List.take_add_one, h]; simp
theorem flat2_length (k : Nat) (g : Int → Nat → Int) (ks : List Int) : (flat2 k g ks).length = ks.length * k := by
  unfold flat2
  induction ks with
  | nil => simp
  | cons a r ih => simp only [List.map_cons, List.flatten_cons, List.length_append, List.length_map, List.length_range, ih, List.length_cons]; rw [Nat.succ_mul]; (first | lia | omega)
section
variable {prog : Program} {w : World} {A : Around} {E : Value → Shared → Prop} {s : Shared} {h₀ : Heap} {L : Addr} {m : Str → Option Value} {env : Env}
  {elt it1 it2 : Expr} {x y : Str} {px py : Pos} {scope : Scope} {cl : List (Str × Addr)} {ks : List Int} {k : Nat} {g : Int → Nat → Int}
/-- the second clause is evaluated -/
def Turn2R (prog : Program) (w : World) (A : Around) (h₀ : Heap) (L : Addr) (m : Str → Option Value) (env : Env) (it2 : Expr) (x : Str) (scope : Scope) (cl : List (Str × Addr)) (ks : List Int) (k : Nat) (news : List (Addr × Obj)) (s₂ : Shared) : Prop :=
  ∀ kv t ys I oI C oC D m₂ h tk, kv ∈ ks → NsObj oC m₂ → m₂ x = some (.int kv t) → Fr h₀ L h m → News h₀ L h ((I, oI) :: (C, oC) :: (D, lst ys) :: news) →
    wpAny (model prog w) A (eval it2 (compEnvC scope cl C env)) (fun xv s' => ∃ r t u v h' tk', xv = .ref r ∧ s' = { s₂ with heap := h', toks := tk' } ∧ IsRange h' r 0 k 1 t u v ∧ Fr h₀ L h' m ∧ News h₀ L h' ((I, oI) :: (C, oC) :: (D, lst ys) :: news)) (fun _ _ => False) { s₂ with heap := h, toks := tk }
/-- one element is evaluated -/
def Turn2E (prog : Program) (w : World) (A : Around) (h₀ : Heap) (L : Addr) (m : Str → Option Value) (env : Env) (elt : Expr) (x y : Str) (scope : Scope) (cl : List (Str × Addr)) (ks : List Int) (k : Nat) (g : Int → Nat → Int) (news : List (Addr × Obj)) (s₂ : Shared) : Prop :=
  ∀ kv j t u ys I2 oI2 I oI C oC D m₂ h tk, kv ∈ ks → j < k → NsObj oC m₂ → m₂ x = some (.int kv t) → m₂ y = some (.int (j : Nat) u) → Fr h₀ L h m → News h₀ L h ((I2, oI2) :: (I, oI) :: (C, oC) :: (D, lst ys) :: news) →
    wpAny (model prog w) A (eval elt (compEnvC scope cl C env)) (fun val s' => ∃ t' h' tk', val = .int (g kv j) t' ∧ s' = { s₂ with heap := h', toks := tk' } ∧ Fr h₀ L h' m ∧ News h₀ L h' ((I2, oI2) :: (I, oI) :: (C, oC) :: (D, lst ys) :: news)) (fun _ _ => False) { s₂ with heap := h, toks := tk }
theorem block_2 {pos : Pos} {s₂ : Shared} {I : Addr} {fp : List Addr} {P : Nat → Value → Prop} {St : Nat → Heap → Prop} {S : List (Addr × Obj) → Prop} {news : List (Addr × Obj)}
    {RR : Value → Addr → Result → Shared → Prop} (hh : A.handled = none)
    (W : Walks prog w A I fp [I] ks.length P St) (hsz : ks.length * k ≤ 1000000) (hkz : k ≤ 1000000) (hIo : ∀ i h, St i h → ∃ o, h.get? I = some o)
    (hSt : ∀ i h h' o nw, St i h → h.get? I = some o → h'.get? I = some o → (∀ b o, h₀.get? b = some o → h'.get? b = some o) → News h₀ L h' nw → S nw → St i h')
    (hcell : ∀ z ∈ scope.names, z.2 ≠ .cell) (hkind : scope.kind = .function) (hx : scope.names.lookup x = some .local) (hy : scope.names.lookup y = some .local) (hxy : x ≠ y) (hst : St 0 s₂.heap) (hfp : ∀ b ∈ fp, b < s₂.heap.objs.size)
    (hP : ∀ i v, P i v → ∃ t kv, ks[i]? = some kv ∧ v = .int kv t) (hs2 : ∀ e v, foldedSetIterable it2 e v = pure v)
    (F : Fr h₀ L s₂.heap m) (N : News h₀ L s₂.heap news) (hIL : L ≠ I) (hI₀ : h₀.get? I = none) (off : ∀ p ∈ news, p.1 ≠ I) (hS : S news)
    (rng : Turn2R prog w A h₀ L m env it2 x scope cl ks k news s₂) (elm : Turn2E prog w A h₀ L m env elt x y scope cl ks k g news s₂)
    (hRR : ∀ D C h tk m' ys, Fr h₀ L h m → News h₀ L h ((D, lst ys) :: news) → Off1 D news → h.Ns C m' → h₀.get? C = none → h₀.get? D = none → C ≠ L → D ≠ L → C ≠ D → (∀ p ∈ news, p.1 ≠ C) → IntsAre ys (flat2 k g ks) → RR (.ref D) C (.ok .next) { s₂ with heap := h, toks := tk }) :
    wpAny (model prog w) A (newList []) (fun acc s₃ => wpAny (model prog w) A (newFunctionEnv scope env.globals cl [] env.qual none .none (some env)) (fun cenv s₄ =>
      codeAny (model prog w) A (.compStart (.ListComp elt [⟨.Name x px, it1, [], 0⟩, ⟨.Name y py, it2, [], 0⟩] scope pos) 0 (.ref I) acc { cenv with scope := relabel scope env }) (RR acc cenv.locals) s₄) E s₃) E s₂ := by
  refine wpAny_newObj_type (wpAny_newFunctionEnv hcell (by intro y hy; simp at hy) (fun h₁ hns₁ hsb₁ => ?_) hkind)
  dsimp only at hns₁ hsb₁ ⊢
  generalize hH2 : s₂.heap.push { cls := .type "list", dict := none, data := .seq ([] : List Value).toArray } = H2 at hns₁ hsb₁ ⊢
  have hC : H2.objs.size = s₂.heap.objs.size + 1 := by rw [← hH2, Heap.size_push]
  have hDC : s₂.heap.objs.size ≠ H2.objs.size := by rw [hC]; exact Nat.ne_of_lt (Nat.lt_succ_self _)
  have below : ∀ b, b < s₂.heap.objs.size → b ≠ H2.objs.size ∧ b ≠ s₂.heap.objs.size := fun b hb => ⟨by rw [hC]; exact Nat.ne_of_lt (Nat.lt_succ_of_lt hb), Nat.ne_of_lt hb⟩
  have hDf : s₂.heap.objs.size ∉ fp := fun hm => Nat.lt_irrefl _ (hfp _ hm)
  have hCf : H2.objs.size ∉ fp := fun hm => by have := hfp _ hm; rw [hC] at this; exact Nat.lt_irrefl _ (Nat.lt_of_succ_lt this)
  have hIf : I ∈ fp := W.sub I (List.mem_singleton.mpr rfl)
  have hIlt : I < s₂.heap.objs.size := hfp I hIf
  have old : ∀ b o, s₂.heap.get? b = some o → h₁.get? b = some o := fun b o e => hsb₁.extBut b o (below b (Heap.lt_size e)).1 (Heap.get?_push_of_some _ (hH2 ▸ Heap.get?_push_of_some _ e))
  have hacc : h₁.get? s₂.heap.objs.size = some (lst []) := hsb₁.extBut _ _ hDC (Heap.get?_push_of_some _ (hH2 ▸ Heap.get?_push_size _ rfl))
  have hst₁ : St 0 h₁ := W.frame _ _ _ hst fun b _ o e => old b o e
  have fresh : ∀ a, s₂.heap.objs.size ≤ a → s₂.heap.get? a = none := fun a ha => by
    cases e : s₂.heap.get? a with
    | none => rfl
    | some o' => exact absurd (Heap.lt_size e) (Nat.not_lt.mpr ha)
  have fresh₀ : ∀ a, s₂.heap.objs.size ≤ a → h₀.get? a = none := fun a ha => by
    cases e : h₀.get? a with
    | none => rfl
    | some o' => have := F.keep a o' e; rw [fresh a ha] at this; cases this
  have hD₀ : h₀.get? s₂.heap.objs.size = none := fresh₀ _ (Nat.le_refl _)
  have hC₀ : h₀.get? H2.objs.size = none := fresh₀ _ (by rw [hC]; exact Nat.le_succ _)
  have hLlt : L < s₂.heap.objs.size := F.ns.lt
  have hDL : s₂.heap.objs.size ≠ L := Ne.symm (below L hLlt).2
  have hCL : H2.objs.size ≠ L := Ne.symm (below L hLlt).1
  have hCI : I ≠ H2.objs.size := (below I hIlt).1
  have hDI : I ≠ s₂.heap.objs.size := (below I hIlt).2
  have offC : ∀ p ∈ news, p.1 ≠ H2.objs.size := fun p hp => (below _ (Heap.lt_size (N p hp).1)).1
  have offD : ∀ p ∈ news, p.1 ≠ s₂.heap.objs.size := fun p hp => (below _ (Heap.lt_size (N p hp).1)).2
  have off1 : Off1 s₂.heap.objs.size news := Off3.one (I := I) (C := H2.objs.size) (Off3.of fun p hp => ⟨off p hp, offC p hp, offD p hp⟩)
  have loop : ∀ s₃ : Shared, s₃ = { s₂ with heap := h₁, toks := s₂.toks + ([] : List (Str × Value)).length } →
      codeAny (model prog w) A (.compLoop (.ListComp elt [⟨.Name x px, it1, [], 0⟩, ⟨.Name y py, it2, [], 0⟩] scope pos) 0 (.ref I) (.ref s₂.heap.objs.size) (compEnvC scope cl H2.objs.size env))
        (RR (.ref s₂.heap.objs.size) H2.objs.size) s₃ := by
    rintro s₃ rfl
    refine two_loop0 (fun n s' => ∃ h' tk i ys m', s' = { s₂ with heap := h', toks := tk } ∧ i ≤ ks.length ∧ n = ks.length + 1 - i ∧ IntsAre ys (flat2 k g (ks.take i)) ∧ St i h' ∧ Fr h₀ L h' m ∧ h'.Ns H2.objs.size m' ∧ News h₀ L h' ((s₂.heap.objs.size, lst ys) :: news)) (fun v => hs2 _ v) ?_ (ks.length + 1)
      ⟨h₁, _, 0, [], _, rfl, Nat.zero_le _, rfl, .nil, hst₁, F.keeps old, hns₁, fun p hp => ?_⟩
    · rintro n s' ⟨h', tk, i, ys, m', rfl, hi, rfl, hys, hst', F', hn', N'⟩
      by_cases hlt : i < ks.length
      · refine W.item i _ _ _ hlt hst' fun v h₂ tk₂ hPv hst₂ hk₂ => ?_
        obtain ⟨tv, kv, hkv, rfl⟩ := hP i v hPv
        refine wpAny_assign_Name (wpAny_storeName_local (lookup_relabel_local hx) (hn'.at' fun o e => hk₂ _ o (by simpa using Ne.symm hCI) e) (fun h₃ hn₃ hs₃ => ?_) (by simp [compEnvC, relabel, hkind]))
        have hst₃ : St (i + 1) h₃ := W.frame _ _ _ hst₂ fun b hb o e => hs₃.extBut b o (fun q => hCf (by have q' : b = H2.objs.size := q; rw [← q']; exact hb)) e
        obtain ⟨oI, heI⟩ := hIo _ _ hst₃
        obtain ⟨oC, heC, hoC⟩ := ns_obj hn₃
        have F₃ : Fr h₀ L h₃ m := (fr_but F' hk₂ hIL hI₀).change hs₃ hCL hC₀
        have N₂ : News h₀ L h₂ ((s₂.heap.objs.size, lst ys) :: news) := news_but N' hk₂ fun p hp => by
          rcases List.mem_cons.mp hp with rfl | hp
          · exact Ne.symm hDI
          · exact off p hp
        have N₃ : News h₀ L h₃ ((I, oI) :: (H2.objs.size, oC) :: (s₂.heap.objs.size, lst ys) :: news) := fun p hp => by
          rcases List.mem_cons.mp hp with rfl | hp
          · exact ⟨heI, Ne.symm hIL, hI₀⟩
          · rcases List.mem_cons.mp hp with rfl | hp
            · exact ⟨heC, hCL, hC₀⟩
            · have z := N₂ p hp
              refine ⟨hs₃.extBut _ _ ?_ z.1, z.2⟩
              rcases List.mem_cons.mp hp with rfl | hp
              · exact hDC
              · exact offC p hp
        have hkm : kv ∈ ks := List.mem_of_getElem? hkv
        refine wpAny_mono (rng kv tv ys I oI H2.objs.size oC s₂.heap.objs.size _ h₃ _ hkm hoC (by simp) F₃ N₃) (fun xv s₄ h₄ => ?_) fun _ _ z => z
        obtain ⟨r, tr, ur, vr, h₄, tk₄, rfl, rfl, hr, F₄, N₄⟩ := h₄
        refine wpAny_pyIter_range hr (small_of (by (first | lia | omega)) (by (first | lia | omega)) (by decide) (by decide)) ?_
        rw [show Builtin.Range.rangeSize 0 (k : Int) 1 = ((k : Nat) : Int) from size_up (by decide) (by (first | lia | omega)) (by (first | lia | omega))]
        generalize hI2 : h₄.objs.size = I2
        have lt2 : ∀ {b o}, h₄.get? b = some o → b ≠ I2 := fun e => by rw [← hI2]; exact Nat.ne_of_lt (Heap.lt_size e)
        have hI2₀ : h₀.get? I2 = none := by rw [← hI2]; exact next_is_new F₄
        have hLI2 : L ≠ I2 := by rw [← hI2]; exact Nat.ne_of_lt F₄.ns.lt
        have hII2 : I ≠ I2 := lt2 (N₄ _ (.head _)).1
        have hCI2 : H2.objs.size ≠ I2 := lt2 (N₄ _ (.tail _ (.head _))).1
        have hDI2 : s₂.heap.objs.size ≠ I2 := lt2 (N₄ _ (.tail _ (.tail _ (.head _)))).1
        have off2 : ∀ p ∈ news, p.1 ≠ I2 := fun p hp => lt2 (N₄ _ (.tail _ (.tail _ (.tail _ hp)))).1
        have W2 := Walks.range (prog := prog) (w := w) (A := A) hh I2 0 1 k
        have hit : IsRangeIter (h₄.push { cls := .type "range_iterator", data := .fields #[rawInt 0, rawInt (k : Nat), rawInt 1] }) I2 (0 + ((0 : Nat) : Int) * 1) ((k : Int) - ((0 : Nat) : Int)) 1 := by
          rw [← hI2]
          simpa using Heap.get?_push_size h₄ rfl
        have inner : codeAny (model prog w) A (.compLoop (.ListComp elt [⟨.Name x px, it1, [], 0⟩, ⟨.Name y py, it2, [], 0⟩] scope pos) 1 (.ref I2) (.ref s₂.heap.objs.size) (compEnvC scope cl H2.objs.size env))
            (fun r s₅ => match r with | .ok _ => ∃ n', n' < ks.length + 1 - i ∧ (∃ h' tk i ys m', s₅ = { s₂ with heap := h', toks := tk } ∧ i ≤ ks.length ∧ n' = ks.length + 1 - i ∧ IntsAre ys (flat2 k g (ks.take i)) ∧ St i h' ∧ Fr h₀ L h' m ∧ h'.Ns H2.objs.size m' ∧ News h₀ L h' ((s₂.heap.objs.size, lst ys) :: news)) | .error _ => False)
            { s₂ with heap := h₄.push { cls := .type "range_iterator", data := .fields #[rawInt 0, rawInt (k : Nat), rawInt 1] }, toks := tk₄ } := by
          refine two_loop1 (fun n s' => ∃ h' tk j ys' m'', s' = { s₂ with heap := h', toks := tk } ∧ j ≤ k ∧ n = k + 1 - j ∧ IntsAre ys' (flat2 k g (ks.take i) ++ (List.range j).map (g kv)) ∧ IsRangeIter h' I2 (0 + ((j : Nat) : Int) * 1) ((k : Int) - ((j : Nat) : Int)) 1 ∧ Fr h₀ L h' m ∧ h'.Ns H2.objs.size m'' ∧ m'' x = some (.int kv tv) ∧ News h₀ L h' ((I, oI) :: (s₂.heap.objs.size, lst ys') :: news)) ?_ (k + 1)
            ⟨_, _, 0, ys, _, rfl, Nat.zero_le _, rfl, by simpa using hys, hit, F₄.push _, (hoC.ns (Heap.get?_push_of_some _ (N₄ _ (.tail _ (.head _))).1)), by simp, fun p hp => ?_⟩
          · rintro n s' ⟨h', tk, j, ys', m'', rfl, hj, rfl, hys', hit', F', hn', hmx, N'⟩
            by_cases hlt2 : j < k
            · refine W2.item j _ _ _ hlt2 hit' fun v h₂ tk₂ hPv hst₂ hk₂ => ?_
              obtain ⟨tj, rfl⟩ := hPv
              refine wpAny_assign_Name (wpAny_storeName_local (lookup_relabel_local hy) (hn'.at' fun o e => hk₂ _ o (by simpa using hCI2) e) (fun h₃ hn₃ hs₃ => ?_) (by simp [compEnvC, relabel, hkind]))
              obtain ⟨oC', heC', hoC'⟩ := ns_obj hn₃
              have hst₃ : IsRangeIter h₃ I2 (0 + ((j + 1 : Nat) : Int) * 1) ((k : Int) - ((j + 1 : Nat) : Int)) 1 := (hs₃.2 I2 (Ne.symm hCI2)).trans hst₂
              have F₃' : Fr h₀ L h₃ m := (fr_but F' hk₂ hLI2 hI2₀).change hs₃ hCL hC₀
              have N₂' : News h₀ L h₂ ((I, oI) :: (s₂.heap.objs.size, lst ys') :: news) := news_but N' hk₂ fun p hp => by
                rcases List.mem_cons.mp hp with rfl | hp
                · exact hII2
                · rcases List.mem_cons.mp hp with rfl | hp
                  · exact hDI2
                  · exact off2 p hp
              have N₃' : News h₀ L h₃ ((I2, _) :: (I, oI) :: (H2.objs.size, oC') :: (s₂.heap.objs.size, lst ys') :: news) := fun p hp => by
                rcases List.mem_cons.mp hp with rfl | hp
                · exact ⟨hst₃, Ne.symm hLI2, hI2₀⟩
                · have kp : ∀ p ∈ ((I, oI) :: (s₂.heap.objs.size, lst ys') :: news), p.1 ≠ H2.objs.size → h₃.get? p.1 = some p.2 ∧ p.1 ≠ L ∧ h₀.get? p.1 = none := fun p hp hne => ⟨hs₃.extBut _ _ hne (N₂' p hp).1, (N₂' p hp).2⟩
                  rcases List.mem_cons.mp hp with rfl | hp
                  · exact kp _ (.head _) hCI
                  · rcases List.mem_cons.mp hp with rfl | hp
                    · exact ⟨heC', hCL, hC₀⟩
                    · rcases List.mem_cons.mp hp with rfl | hp
                      · exact kp _ (.tail _ (.head _)) hDC
                      · exact kp _ (.tail _ (.tail _ hp)) (offC p hp)
              refine wpAny_mono (elm kv j tv tj ys' I2 _ I oI H2.objs.size oC' s₂.heap.objs.size _ h₃ _ hkm hlt2 hoC' (by simp only [if_neg hxy]; exact hmx) (by simp) F₃' N₃') (fun val s₄ h₄ => ?_) fun _ _ z => z
              obtain ⟨t', h₄, tk₄, rfl, rfl, F₄', N₄'⟩ := h₄
              have hyl := hys'.length
              rw [List.length_append, flat2_length, List.length_take, List.length_map, List.length_range] at hyl
              have hle : ys'.length ≤ sizeLine := by
                have h1 : min i ks.length * k + j ≤ ks.length * k := by
                  rw [Nat.min_eq_left (Nat.le_of_lt hlt)]
                  calc i * k + j ≤ i * k + k := by (first | lia | omega)
                    _ = (i + 1) * k := by rw [Nat.add_mul, Nat.one_mul]
                    _ ≤ ks.length * k := Nat.mul_le_mul_right _ hlt
                rw [sizeLine_eq]; (first | lia | omega)
              refine append_at (hsz := by show ys'.toArray.size ≤ sizeLine; rw [List.size_toArray]; exact hle) (N₄' _ (.tail _ (.tail _ (.tail _ (.head _))))).1 fun h₅ hs₅ hD₅ => ?_
              refine ⟨k + 1 - (j + 1), by (first | lia | omega), h₅, tk₄, j + 1, ys' ++ [.int (g kv j) t'], _, rfl, hlt2, rfl, ?_, (hs₅.2 I2 (Ne.symm hDI2)).trans (N₄' _ (.head _)).1, F₄'.change hs₅ hDL hD₀, (hoC'.ns (N₄' _ (.tail _ (.tail _ (.head _)))).1).sameBut hs₅ (Ne.symm hDC), by simp only [if_neg hxy]; exact hmx, fun p hp => ?_⟩
              · rw [List.range_succ, List.map_append, ← List.append_assoc]
                exact IntsAre.append hys' (.cons _ _ .nil)
              · rcases List.mem_cons.mp hp with rfl | hp
                · exact ⟨hs₅.extBut _ _ hDI (N₄' _ (.tail _ (.head _))).1, (N₄' _ (.tail _ (.head _))).2⟩
                · rcases List.mem_cons.mp hp with rfl | hp
                  · exact ⟨hD₅.trans (congrArg some (lst_snoc ys' _)), hDL, hD₀⟩
                  · have z := N₄' _ (.tail _ (.tail _ (.tail _ (.tail _ hp))))
                    exact ⟨hs₅.extBut _ _ (offD p hp) z.1, z.2⟩
            · obtain rfl : j = k := Nat.le_antisymm hj (Nat.not_lt.mp hlt2)
              refine W2.done _ _ _ hit' fun h₂ tk₂ hk₂ => ?_
              have N₂' : News h₀ L h₂ ((I, oI) :: (s₂.heap.objs.size, lst ys') :: news) := news_but N' hk₂ fun p hp => by
                rcases List.mem_cons.mp hp with rfl | hp
                · exact hII2
                · rcases List.mem_cons.mp hp with rfl | hp
                  · exact hDI2
                  · exact off2 p hp
              have F₂' := fr_but F' hk₂ hLI2 hI2₀
              have Nt : News h₀ L h₂ ((s₂.heap.objs.size, lst ys') :: news) := fun p hp => N₂' p (.tail _ hp)
              refine ⟨ks.length + 1 - (i + 1), by (first | lia | omega), h₂, tk₂, i + 1, ys', _, rfl, hlt, rfl, by rw [flat2_snoc hkv]; exact hys', hSt _ _ _ _ _ hst₃ heI (N₂' _ (.head _)).1 F₂'.keep (fun p hp => Nt p (.tail _ hp)) hS, F₂', hn'.at' (fun o e => hk₂ _ o (by simpa using hCI2) e), Nt⟩
          · rcases List.mem_cons.mp hp with rfl | hp
            · exact ⟨Heap.get?_push_of_some _ (N₄ _ (.head _)).1, (N₄ _ (.head _)).2⟩
            · have z := N₄ _ (.tail _ (.tail _ hp))
              exact ⟨Heap.get?_push_of_some _ z.1, z.2⟩
        subst hI2
        exact two_start1 inner (W2.self 0 _ _ _ hit inner)
      · obtain rfl : i = ks.length := Nat.le_antisymm hi (Nat.not_lt.mp hlt)
        refine W.done _ _ _ hst' fun h₂ tk₂ hk₂ => ?_
        rw [List.take_of_length_le (Nat.le_refl _)] at hys
        exact hRR _ _ h₂ tk₂ _ ys (fr_but F' hk₂ hIL hI₀) (news_but N' hk₂ fun p hp => by
          rcases List.mem_cons.mp hp with rfl | hp
          · exact Ne.symm hDI
          · exact off p hp) off1 (hn'.at' fun o e => hk₂ _ o (by simpa using Ne.symm hCI) e) hC₀ hD₀ hCL hDL (Ne.symm hDC) offC hys
    · rcases List.mem_cons.mp hp with rfl | hp
      · exact ⟨hacc, hDL, hD₀⟩
      · exact ⟨old _ _ (N p hp).1, (N p hp).2⟩
  exact codeAny_compStart_list (loop _ rfl) (W.self 0 _ _ _ hst₁ (loop _ rfl))
/-- where the outer iterator stands -/
inductive Src2 (prog : Program) (w : World) (A : Around) (h₀ : Heap) (L : Addr) (m : Str → Option Value) (env : Env) (elt it2 : Expr) (x y : Str) (scope : Scope) (cl : List (Str × Addr)) (Q : Value → Shared → Prop) (it : Value) (s₂ : Shared) : Prop
  | mk (ks : List Int) (k : Nat) (g : Int → Nat → Int) (I : Addr) (fp : List Addr) (P : Nat → Value → Prop) (St : Nat → Heap → Prop) (S : List (Addr × Obj) → Prop) (news : List (Addr × Obj)) :
    it = .ref I →
    Walks prog w A I fp [I] ks.length P St →
    ks.length * k ≤ 1000000 →
    k ≤ 1000000 →
    (∀ i h, St i h → ∃ o, h.get? I = some o) →
    (∀ i h h' o nw, St i h → h.get? I = some o → h'.get? I = some o → (∀ b o, h₀.get? b = some o → h'.get? b = some o) → News h₀ L h' nw → S nw → St i h') →
    St 0 s₂.heap →
    (∀ b ∈ fp, b < s₂.heap.objs.size) →
    (∀ i v, P i v → ∃ t kv, ks[i]? = some kv ∧ v = .int kv t) →
    Fr h₀ L s₂.heap m →
    News h₀ L s₂.heap news →
    L ≠ I →
    h₀.get? I = none →
    (∀ p ∈ news, p.1 ≠ I) →
    S news →
    Turn2R prog w A h₀ L m env it2 x scope cl ks k news s₂ →
    Turn2E prog w A h₀ L m env elt x y scope cl ks k g news s₂ →
    (∀ D ys h tk, Fr h₀ L h m → News h₀ L h ((D, lst ys) :: news) → IntsAre ys (flat2 k g ks) → Q (.ref D) { s₂ with heap := h, toks := tk }) → Src2 prog w A h₀ L m env elt it2 x y scope cl Q it s₂
theorem ListComp_2 {pos : Pos} {Q : Value → Shared → Prop} (hh : A.handled = none) (F₀ : Fr h₀ L s.heap m) (hclos : closureFor scope env = pure cl) (hcell : ∀ z ∈ scope.names, z.2 ≠ .cell) (hkind : scope.kind = .function)
    (hnames : ∀ z ∈ scope.names, z.2 = .local → scope.names.lookup z.1 = some .local) (hx : scope.names.lookup x = some .local) (hy : scope.names.lookup y = some .local) (hxy : x ≠ y)
    (h : wpAny (model prog w) A (eval it1 env) (fun xv s₁ => Hold (wpAny (model prog w) A (pyIter xv) (Src2 prog w A h₀ L m env elt it2 x y scope cl Q) E s₁)) E s)
    (hs : ∀ x, foldedSetIterable it1 env x = pure x) (hs2 : ∀ e v, foldedSetIterable it2 e v = pure v) :
    wpAny (model prog w) A (eval (.ListComp elt [⟨.Name x px, it1, [], 0⟩, ⟨.Name y py, it2, [], 0⟩] scope pos) env) Q E s := by
  rw [eval_ListComp]
  refine wpAny_comprehension_free (use := none) rfl hs hclos hkind hnames (wpAny_mono h (fun xv s₁ h₁ => wpAny_mono h₁ (fun it s₂ h₂ => ?_) fun _ _ e => e) fun _ _ e => e)
  obtain ⟨ks, k, g, I, fp, P, St, S, news, rfl, W, hsz, hkz, hIo, hSt, hst, hfp, hP, F, N, hIL, hI0, off, hS, rng, elm, fin⟩ := h₂
  refine block_2 (RR := fun acc C => compPost (model prog w) A E none Q acc C) hh W hsz hkz hIo hSt hcell hkind hx hy hxy hst hfp hP hs2 F N hIL hI0 off hS rng elm ?_
  intro D C h' tk m' ys F' N' o1 hn hC₀ hD₀ hCL hDL hCD offC hys
  refine ⟨m', hn, fun h'' hs'' => fin D ys h'' tk (F'.change hs'' hCL hC₀) (fun p hp => ?_) hys⟩
  refine ⟨hs''.extBut _ _ ?_ (N' p hp).1, (N' p hp).2⟩
  rcases List.mem_cons.mp hp with rfl | hp
  · exact Ne.symm hCD
  · exact offC p hp
theorem src2_bytes {Q : Value → Shared → Prop} {news : List (Addr × Obj)} {b : Array UInt8} {t : Tok} (hh : A.handled = none) (F : Fr h₀ L s.heap m) (N : News h₀ L s.heap news) (hk : KBw.bInts b = ks) (hsz : ks.length * k ≤ 1000000) (hkz : k ≤ 1000000)
    (rng : ∀ g', Turn2R prog w A h₀ L m env it2 x scope cl ks k news { s with heap := g' }) (elm : ∀ g', Turn2E prog w A h₀ L m env elt x y scope cl ks k g news { s with heap := g' })
    (fin : ∀ D ys h tk, Fr h₀ L h m → News h₀ L h ((D, lst ys) :: news) → IntsAre ys (flat2 k g ks) → Q (.ref D) { s with heap := h, toks := tk }) :
    wpAny (model prog w) A (pyIter (.bytes b t)) (Src2 prog w A h₀ L m env elt it2 x y scope cl Q) E s := by
  have hl : ks.length = b.size := by rw [← hk, KBw.ints_length]
  refine KBw.pyIter_bytes ?_
  refine ⟨ks, k, g, s.heap.objs.size, [s.heap.objs.size], _, _, fun _ => True, news, rfl, hl ▸ KBw.walks hh s.heap.objs.size b t, hsz, hkz, fun i h st => ?_, fun i h h' o nw st e e' _ _ _ => ?_, ⟨_, Heap.get?_push_size _ rfl, rfl, rfl⟩, fun b hb => ?_, fun i v hv => ?_,
    F.push _, fun p hp => ⟨Heap.get?_push_of_some _ (N p hp).1, (N p hp).2⟩, Nat.ne_of_lt F.ns.lt, next_is_new F, fun p hp => Nat.ne_of_lt (Heap.lt_size (N p hp).1), trivial, rng _, elm _, fin⟩
  · obtain ⟨o, e, _⟩ := st; exact ⟨o, e⟩
  · obtain ⟨o', q, r⟩ := st; rw [e] at q; cases q; exact ⟨o, e', r⟩
  · rw [List.mem_singleton.mp hb]
    show s.heap.objs.size < (s.heap.push _).objs.size
    rw [Heap.size_push]; exact Nat.lt_succ_self _
  · obtain ⟨c, u, hc, rfl⟩ := hv
    exact ⟨u, (c.toNat : Int), by rw [← hk]; unfold KBw.bInts; simp [hc], rfl⟩
theorem src2_list {Q : Value → Shared → Prop} {news : List (Addr × Obj)} {ax : Addr} {vs : List Value} (hh : A.handled = none) (F : Fr h₀ L s.heap m) (N : News h₀ L s.heap news) (S : SrcAt h₀ ax vs.toArray news) (hi : IntsAre vs ks) (hsz : ks.length * k ≤ 1000000) (hkz : k ≤ 1000000)
    (rng : ∀ g', Turn2R prog w A h₀ L m env it2 x scope cl ks k news { s with heap := g' }) (elm : ∀ g', Turn2E prog w A h₀ L m env elt x y scope cl ks k g news { s with heap := g' })
    (fin : ∀ D ys h tk, Fr h₀ L h m → News h₀ L h ((D, lst ys) :: news) → IntsAre ys (flat2 k g ks) → Q (.ref D) { s with heap := h, toks := tk }) :
    wpAny (model prog w) A (pyIter (.ref ax)) (Src2 prog w A h₀ L m env elt it2 x y scope cl Q) E s := by
  have hl := S.list F.keep N
  have hlt : ax < s.heap.objs.size := by obtain ⟨_, e, _⟩ := hl; exact Heap.lt_size e
  have hlen : ks.length = vs.toArray.size := by rw [List.size_toArray]; exact hi.length.symm
  refine wpAny_pyIter_list hl ?_
  refine ⟨ks, k, g, s.heap.objs.size, [s.heap.objs.size, ax], _, _, SrcAt h₀ ax vs.toArray, news, rfl, hlen ▸ Walks.list hh s.heap.objs.size ax (Nat.ne_of_lt hlt) vs.toArray, hsz, hkz, fun i h st => by obtain ⟨o, e, _⟩ := st.1; exact ⟨o, e⟩, list_st,
    ⟨⟨_, Heap.get?_push_size _ rfl, rfl, rfl⟩, hl.push _⟩, fun b hb => ?_, fun i v hv => ?_, F.push _, fun p hp => ⟨Heap.get?_push_of_some _ (N p hp).1, (N p hp).2⟩, Nat.ne_of_lt F.ns.lt, next_is_new F, fun p hp => Nat.ne_of_lt (Heap.lt_size (N p hp).1), S, rng _, elm _, fin⟩
  · show b < (s.heap.push _).objs.size
    rw [Heap.size_push]
    rcases List.mem_cons.mp hb with rfl | hb
    · exact Nat.lt_succ_self _
    · rw [List.mem_singleton.mp hb]; exact Nat.lt_succ_of_lt hlt
  · have hv' : vs[i]? = some v := by simpa using hv
    have : ∀ {vs : List Value} {ks : List Int}, IntsAre vs ks → ∀ (i : Nat) (v : Value), vs[i]? = some v → ∃ t kv, ks[i]? = some kv ∧ v = .int kv t := by
      intro vs ks h
      induction h with
      | nil => intro i v e; simp at e
      | cons t' k' _ ih =>
        intro i v e
        cases i with
        | zero => simp at e; exact ⟨_, _, by simp, e.symm⟩
        | succ i => simp at e; simpa using ih i v e
    exact this hi i v hv'
end
end Mine
end
section
set_option maxRecDepth 100000
namespace Mine
section
local macro_rules | `(tactic| walk_at "eval ListComp") => `(tactic| (k_here; (rename Fr _ _ _ _ => lF'); (refine' ListComp_H lF' ?hclos ?hcell ?hkind ?hnames ?hx ?_ ?hs); (case hclos => with_unfolding_all rfl); (case hcell => decide); (case hkind => with_unfolding_all rfl); (case hnames => decide); (case hx => with_unfolding_all rfl); (case hs => intro _; with_unfolding_all rfl)))
local macro_rules | `(tactic| walk_at "exec Assign cons ListComp") => `(tactic| (k_here; (rename Fr _ _ _ _ => lF'); (refine' Assign_ListComp_H lF' ?hLe ?hsw ?hclos ?hcell ?hkind ?hnames ?hx ?hy ?hp ?_ ?hs); (case hLe => rfl); (case hsw => with_unfolding_all rfl); (case hclos => with_unfolding_all rfl); (case hcell => decide); (case hkind => with_unfolding_all rfl); (case hnames => decide); (case hx => with_unfolding_all rfl); (case hy => with_unfolding_all rfl); (case hp => with_unfolding_all rfl); (case hs => intro _; with_unfolding_all rfl)))
local macro_rules | `(tactic| walk_at "exec For Name Name cons nil") => `(tactic| (k_here; (rename Fr _ _ _ _ => lF'); (refine' For_H lF' ?hx ?hp ?_ ?hs ?hE); (case hx => with_unfolding_all rfl); (case hp => with_unfolding_all rfl); (case hs => intro _; with_unfolding_all rfl); (case hE => passes_own)))
local macro_rules | `(tactic| walk_at "exec For Name Call cons nil") => `(tactic| (k_here; (rename Fr _ _ _ _ => lF'); (refine' For_H lF' ?hx ?hp ?_ ?hs ?hE); (case hx => with_unfolding_all rfl); (case hp => with_unfolding_all rfl); (case hs => intro _; with_unfolding_all rfl); (case hE => passes_own)))
local macro_rules | `(tactic| walk_at "binaryOp BitAnd int int") => `(tactic| (with_reducible first | refine and63 ?_ | refine and255 ?_))
local macro_rules | `(tactic| walk_at "eval ListComp") => `(tactic| (k_here; (rename Fr _ _ _ _ => lF'); (refine' ListComp_2 ?hh lF' ?hclos ?hcell ?hkind ?hnames ?hx ?hy ?hxy ?_ ?hs ?hs2); (case hh => with_unfolding_all rfl); (case hclos => with_unfolding_all rfl); (case hcell => decide); (case hkind => with_unfolding_all rfl); (case hnames => decide); (case hx => with_unfolding_all rfl); (case hy => with_unfolding_all rfl); (case hxy => decide); (case hs => intro _; with_unfolding_all rfl); (case hs2 => intro _ _; with_unfolding_all rfl)))
local macro_rules | `(tactic| walk_at "eval Call") => `(tactic| (with_unfolding_all refine Call_ ?_))
/-- a bit of a worth -/
def bitOf (size : Nat) (a : Int) (j : Nat) : Int := (a.fdiv (2 ^ ((size : Int) - 1 - j).toNat)).fmod 2
set_option maxHeartbeats 4000000 in
theorem bits8_spec {w : World} {mean : ExcName → Option Value} {mg mb : Str → Option Value} {dp un : Nat} {gd : Option (List Code)} {fr : Option (List Env)} {s : Shared} {E Q : Value → Shared → Prop}
    {b : Array UInt8} {ks : List Int} {tb ts : Tok}
    (X : (Mine.hd.heap_1_39 w.params).In s.heap) (T : Top Mine.hd.view_1_40 (looseW Mine.hd.view_1_40 [Str.ofString "PostError", Str.ofString "encoded"]) mean mg mb s.heap) (hdp : dp + 10 < recursionLimit) (hun : un + 100 < cLine)
    (hb : KBw.bInts b = ks) (hl : ks.length ≤ 1000)
    (ret : ∀ D ys h' tk', (∀ b o, s.heap.get? b = some o → h'.get? b = some o) → s.heap.get? D = none → h'.get? D = some (LCg.lst ys) → IntsAre ys (flat2 8 (bitOf 8) ks) → Q (.ref D) { s with heap := h', toks := tk' }) :
    wpAny (model PySem.Challenge.rw_no0352_01.row.prog w) (Ar dp un gd fr) (call (.ref 153) [.bytes b tb, .int 8 ts]) Q E s := by
  revert X; k_fill; intro X
  refine' enterC1 (binds := [(Str.ofString "worths", .bytes b tb), (Str.ofString "size", .int 8 ts)]) (x1 := Str.ofString "size") (c1 := some (.int 8 ts)) (lm := fun y => if y = Str.ofString "worths" then some (.bytes b tb) else none) X T ?k6 ?k7 ?k8 ?k9 ?kB ?kD ?kc ?kl ?hc1 ?_ ?c2 ?c3 ?c4; (case k6 => k_is); (case k7 => k_is); (case k8 => (simp only [recursionLimit] at *; (first | lia | omega))); (case k9 => exact BindsTo.of_eq rfl); (case kB => exact rfl); (case kD => decide +kernel); (case kc => intro _; rfl); (case kl => intro _; rfl); (case hc1 => intro _; rfl); (case c2 => exact rfl); (case c3 => exact rfl); (case c4 => exact rfl)
  intro L' h' tk' o1 F' N' d1
  try dsimp only
  try k_fold
  k_steps
  rename Fr _ _ _ _ => F0
  rename News _ _ _ _ => N0
  show wpAny _ _ (pyIter _) _ _ _
  refine src2_bytes (k := 8) (g := bitOf 8) rfl F0 N0 hb (by (first | lia | omega)) (by decide) ?_ ?_ ?_
  · intro g' kv t ys I oI C oC D m₂ h tk hkm hC hx F₂ N₂
    (try k_fold)
    k_steps
    all_goals (rename Fr _ _ _ _ => Fz; rename News _ _ _ _ => Nz; first | exact Fz | exact Nz | exact fun p hp => Nz p (.tail _ hp))
  · intro g' kv j t u ys I2 oI2 I oI C oC D m₂ h tk hkm hj hC hx hy F₂ N₂
    (try k_fold)
    k_steps
    all_goals (rename Fr _ _ _ _ => Fz; rename News _ _ _ _ => Nz; first | exact Fz | exact Nz | exact fun p hp => Nz p (.tail _ hp))
  · intro D ys h tk F₂ N₂ hys
    (try dsimp only)
    exact ret D ys h tk F₂.keep (N₂ _ (.head _)).2.2 (N₂ _ (.head _)).1 hys
set_option maxHeartbeats 4000000 in
theorem bits6_spec {w : World} {mean : ExcName → Option Value} {mg mb : Str → Option Value} {dp un : Nat} {gd : Option (List Code)} {fr : Option (List Env)} {s : Shared} {E Q : Value → Shared → Prop}
    {l : Addr} {vs : List Value} {ks : List Int} {ts : Tok}
    (X : (Mine.hd.heap_1_39 w.params).In s.heap) (T : Top Mine.hd.view_1_40 (looseW Mine.hd.view_1_40 [Str.ofString "PostError", Str.ofString "encoded"]) mean mg mb s.heap) (hdp : dp + 10 < recursionLimit) (hun : un + 100 < cLine)
    (hl0 : s.heap.IsList l vs.toArray) (hi : IntsAre vs ks) (hl : ks.length ≤ 1000)
    (ret : ∀ D ys h' tk', (∀ b o, s.heap.get? b = some o → h'.get? b = some o) → s.heap.get? D = none → h'.get? D = some (LCg.lst ys) → IntsAre ys (flat2 6 (bitOf 6) ks) → Q (.ref D) { s with heap := h', toks := tk' }) :
    wpAny (model PySem.Challenge.rw_no0352_01.row.prog w) (Ar dp un gd fr) (call (.ref 153) [.ref l, .int 6 ts]) Q E s := by
  revert X; k_fill; intro X
  refine' enterC1 (binds := [(Str.ofString "worths", .ref l), (Str.ofString "size", .int 6 ts)]) (x1 := Str.ofString "size") (c1 := some (.int 6 ts)) (lm := fun y => if y = Str.ofString "worths" then some (.ref l) else none) X T ?k6 ?k7 ?k8 ?k9 ?kB ?kD ?kc ?kl ?hc1 ?_ ?c2 ?c3 ?c4; (case k6 => k_is); (case k7 => k_is); (case k8 => (simp only [recursionLimit] at *; (first | lia | omega))); (case k9 => exact BindsTo.of_eq rfl); (case kB => exact rfl); (case kD => decide +kernel); (case kc => intro _; rfl); (case kl => intro _; rfl); (case hc1 => intro _; rfl); (case c2 => exact rfl); (case c3 => exact rfl); (case c4 => exact rfl)
  intro L' h' tk' o1 F' N' d1
  try dsimp only
  try k_fold
  k_steps
  rename Fr _ _ _ _ => F0
  rename News _ _ _ _ => N0
  show wpAny _ _ (pyIter _) _ _ _
  refine src2_list (k := 6) (g := bitOf 6) rfl F0 N0 (.inl hl0) hi (by (first | lia | omega)) (by decide) ?_ ?_ ?_
  · intro g' kv t ys I oI C oC D m₂ h tk hkm hC hx F₂ N₂
    (try k_fold)
    k_steps
    all_goals (rename Fr _ _ _ _ => Fz; rename News _ _ _ _ => Nz; first | exact Fz | exact Nz | exact fun p hp => Nz p (.tail _ hp))
  · intro g' kv j t u ys I2 oI2 I oI C oC D m₂ h tk hkm hj hC hx hy F₂ N₂
    (try k_fold)
    k_steps
    all_goals (rename Fr _ _ _ _ => Fz; rename News _ _ _ _ => Nz; first | exact Fz | exact Nz | exact fun p hp => Nz p (.tail _ hp))
  · intro D ys h tk F₂ N₂ hys
    (try dsimp only)
    exact ret D ys h tk F₂.keep (N₂ _ (.head _)).2.2 (N₂ _ (.head _)).1 hys
end
end Mine
end
theorem Mine.quiet_C153 : True := by w_top off; trivial
open Mine
local macro_rules | `(tactic| walk_at "Z1") => `(tactic| (k_here; (rename Fr _ _ _ _ => lF'); (refine' ListComp_H lF' ?hclos ?hcell ?hkind ?hnames ?hx ?_ ?hs); (case hclos => with_unfolding_all rfl); (case hcell => decide); (case hkind => with_unfolding_all rfl); (case hnames => decide); (case hx => with_unfolding_all rfl); (case hs => intro _; with_unfolding_all rfl)))
local macro_rules | `(tactic| walk_at "Z2") => `(tactic| (k_here; (rename Fr _ _ _ _ => lF'); (refine' Assign_ListComp_H lF' ?hLe ?hsw ?hclos ?hcell ?hkind ?hnames ?hx ?hy ?hp ?_ ?hs); (case hLe => rfl); (case hsw => with_unfolding_all rfl); (case hclos => with_unfolding_all rfl); (case hcell => decide); (case hkind => with_unfolding_all rfl); (case hnames => decide); (case hx => with_unfolding_all rfl); (case hy => with_unfolding_all rfl); (case hp => with_unfolding_all rfl); (case hs => intro _; with_unfolding_all rfl)))
local macro_rules | `(tactic| walk_at "Z3") => `(tactic| (k_here; (rename Fr _ _ _ _ => lF'); (refine' For_H lF' ?hx ?hp ?_ ?hs ?hE); (case hx => with_unfolding_all rfl); (case hp => with_unfolding_all rfl); (case hs => intro _; with_unfolding_all rfl); (case hE => passes_own)))
section
open PySem.Spec LCg
open Sem (wp)
set_option maxRecDepth 100000
namespace Mine
section
variable {prog : Program} {w : World} {A : Around} {E : Value → Shared → Prop} {s : Shared} {h₀ : Heap} {L : Addr} {m : Str → Option Value} {env : Env}
  {elt iter : Expr} {x : Str} {px : Pos} {scope : Scope} {cl : List (Str × Addr)} {f : Nat → Int}
/-- the scope of a comprehension whose one variable is a cell -/
theorem env_cell {h : Heap} {Q : Env → Shared → Prop} (hk : scope.kind = .function) (hcs : ∀ n, cellsFrom n scope.names cl = (x, n) :: cl) (hps : ∀ h, pushCells h scope.names = h.push { cls := .type "cell", data := .cell none })
    (hQ : ∀ h' cc, h'.Ns s.heap.objs.size (fun _ => none) → h'.get? cc = some { cls := .type "cell", data := .cell none } → cc ≠ s.heap.objs.size → s.heap.objs.size < cc → (∀ b o, s.heap.get? b = some o → h'.get? b = some o) →
      Q { scope, locals := s.heap.objs.size, globals := env.globals, cells := (x, cc) :: cl, qual := env.qual, func := none, code := env.code, frame := env.frame, builtins := env.builtins } { s with heap := h' }) :
    wpAny (model prog w) A (newFunctionEnv scope env.globals cl [] env.qual none .none (some env)) Q E s := by
  simp only [newFunctionEnv, Option.isSome_some, if_true]
  refine wpAny_bind (wpAny_alloc ?_)
  refine wpAny_bind (wpAny_layCells _ (fun name kind cells => by cases hkc : kind == NameKind.cell <;> simp [hkc]) _ _ _ _ ?_)
  rw [hcs, hps]
  refine wpAny_bind (wpAny_pure (wpAny_pure ?_))
  have hz : (s.heap.push { cls := .type "dict", data := .dict #[] }).objs.size = s.heap.objs.size + 1 := Heap.size_push ..
  refine hQ _ _ ((Heap.Ns.new s.heap (.type "dict")).keeps fun b o e => Heap.get?_push_of_some _ e) (Heap.get?_push_size _ rfl) ?_ ?_ fun b o e => Heap.get?_push_of_some _ (Heap.get?_push_of_some _ e)
  · show (s.heap.push _).objs.size ≠ _
    rw [hz]; exact Nat.ne_of_gt (Nat.lt_succ_self _)
  · show _ < (s.heap.push _).objs.size
    rw [hz]; exact Nat.lt_succ_self _
/-- one element of such a comprehension -/
def TurnC (prog : Program) (w : World) (A : Around) (h₀ : Heap) (L : Addr) (m : Str → Option Value) (env : Env) (elt : Expr) (x : Str) (scope : Scope) (cl : List (Str × Addr)) (n : Nat) (f : Nat → Int) (news : List (Addr × Obj)) (s₂ : Shared) : Prop :=
  ∀ i t ys I oI cc oc C oC D h tk, i < n → oc.data = .cell (some (.int (i : Nat) t)) → Fr h₀ L h m → News h₀ L h ((I, oI) :: (cc, oc) :: (C, oC) :: (D, lst ys) :: news) →
    wpAny (model prog w) A (eval elt (compEnvC scope ((x, cc) :: cl) C env)) (fun val s' => ∃ t' h' tk', val = .int (f i) t' ∧ s' = { s₂ with heap := h', toks := tk' } ∧ Fr h₀ L h' m ∧ News h₀ L h' ((I, oI) :: (cc, oc) :: (C, oC) :: (D, lst ys) :: news)) (fun _ _ => False) { s₂ with heap := h, toks := tk }
theorem relabel_cell {names : List (Str × NameKind)} (h : names.lookup x = some .cell) :
    (names.map fun (n, k) => if (k == NameKind.free && env.scope.kind == .function && env.kindOf n == some .cell) then (n, NameKind.cell) else (n, k)).lookup x = some .cell := by
  induction names with
  | nil => simp at h
  | cons p r ih =>
    obtain ⟨n, k⟩ := p
    rw [List.map_cons]
    rw [List.lookup_cons] at h
    cases hb : x == n with
    | true =>
      rw [hb] at h
      cases h
      dsimp only
      split <;> (rw [List.lookup_cons, hb])
    | false =>
      rw [hb] at h
      dsimp only
      split <;> (rw [List.lookup_cons, hb]; exact ih h)
theorem block_C {pos : Pos} {s₂ : Shared} {I : Addr} {n : Nat} {news : List (Addr × Obj)}
    {RR : Value → Addr → Result → Shared → Prop} (hh : A.handled = none)
    (hsz : n ≤ sizeLine)
    (hkind : scope.kind = .function) (hx : scope.names.lookup x = some .cell) (hcs : ∀ n, cellsFrom n scope.names cl = (x, n) :: cl) (hps : ∀ h, pushCells h scope.names = h.push { cls := .type "cell", data := .cell none })
    (hst : IsRangeIter s₂.heap I (0 + ((0 : Nat) : Int) * 1) ((n : Int) - ((0 : Nat) : Int)) 1) 
    (F : Fr h₀ L s₂.heap m) (N : News h₀ L s₂.heap news) (hIL : L ≠ I) (hI₀ : h₀.get? I = none) (off : ∀ p ∈ news, p.1 ≠ I)
    (turn : TurnC prog w A h₀ L m env elt x scope cl n f news s₂)
    (hRR : ∀ D C h tk m' ys, Fr h₀ L h m → News h₀ L h ((D, lst ys) :: news) → Off1 D news → h.Ns C m' → h₀.get? C = none → h₀.get? D = none → C ≠ L → D ≠ L → C ≠ D → (∀ p ∈ news, p.1 ≠ C) → IntsAre ys ((List.range n).map f) → RR (.ref D) C (.ok .next) { s₂ with heap := h, toks := tk }) :
    wpAny (model prog w) A (newList []) (fun acc s₃ => wpAny (model prog w) A (newFunctionEnv scope env.globals cl [] env.qual none .none (some env)) (fun cenv s₄ =>
      codeAny (model prog w) A (.compStart (.ListComp elt [⟨.Name x px, iter, [], 0⟩] scope pos) 0 (.ref I) acc { cenv with scope := relabel scope env }) (RR acc cenv.locals) s₄) E s₃) E s₂ := by
  have W := Walks.range (prog := prog) (w := w) (A := A) hh I 0 1 n
  have hIlt : I < s₂.heap.objs.size := Heap.lt_size hst
  refine wpAny_newObj_type (env_cell (h := s₂.heap) hkind hcs hps (fun h₁ cc hns₁ hcc₁ hccC hCcc hk₁ => ?_))
  dsimp only at hns₁ hk₁ hcc₁ hccC ⊢
  generalize hH2 : s₂.heap.push { cls := .type "list", dict := none, data := .seq ([] : List Value).toArray } = H2 at hns₁ hk₁ hcc₁ hccC hCcc ⊢
  have hC : H2.objs.size = s₂.heap.objs.size + 1 := by rw [← hH2, Heap.size_push]
  have hDC : s₂.heap.objs.size ≠ H2.objs.size := by rw [hC]; exact Nat.ne_of_lt (Nat.lt_succ_self _)
  have hCcc' : H2.objs.size < cc := hCcc
  have hDcc : s₂.heap.objs.size ≠ cc := Nat.ne_of_lt (by rw [hC] at hCcc'; exact Nat.lt_trans (Nat.lt_succ_self _) hCcc')
  have below : ∀ b, b < s₂.heap.objs.size → b ≠ H2.objs.size ∧ b ≠ s₂.heap.objs.size ∧ b ≠ cc := fun b hb => ⟨by rw [hC]; exact Nat.ne_of_lt (Nat.lt_succ_of_lt hb), Nat.ne_of_lt hb, Nat.ne_of_lt (by rw [hC] at hCcc'; exact Nat.lt_trans hb (Nat.lt_trans (Nat.lt_succ_self _) hCcc'))⟩
  have old : ∀ b o, s₂.heap.get? b = some o → h₁.get? b = some o := fun b o e => hk₁ b o (hH2 ▸ Heap.get?_push_of_some _ e)
  have hacc : h₁.get? s₂.heap.objs.size = some (lst []) := hk₁ _ _ (hH2 ▸ Heap.get?_push_size _ rfl)
  have hst₁ : IsRangeIter h₁ I (0 + ((0 : Nat) : Int) * 1) ((n : Int) - ((0 : Nat) : Int)) 1 := old _ _ hst
  have fresh : ∀ a, s₂.heap.objs.size ≤ a → s₂.heap.get? a = none := fun a ha => by
    cases e : s₂.heap.get? a with
    | none => rfl
    | some o' => exact absurd (Heap.lt_size e) (Nat.not_lt.mpr ha)
  have fresh₀ : ∀ a, s₂.heap.objs.size ≤ a → h₀.get? a = none := fun a ha => by
    cases e : h₀.get? a with
    | none => rfl
    | some o' => have := F.keep a o' e; rw [fresh a ha] at this; cases this
  have hD₀ : h₀.get? s₂.heap.objs.size = none := fresh₀ _ (Nat.le_refl _)
  have hC₀ : h₀.get? H2.objs.size = none := fresh₀ _ (by rw [hC]; exact Nat.le_succ _)
  have hcc₀ : h₀.get? cc = none := fresh₀ _ (by rw [hC] at hCcc'; exact Nat.le_of_lt (Nat.lt_trans (Nat.lt_succ_self _) hCcc'))
  have hLlt : L < s₂.heap.objs.size := F.ns.lt
  have hDL : s₂.heap.objs.size ≠ L := Ne.symm (below L hLlt).2.1
  have hCL : H2.objs.size ≠ L := Ne.symm (below L hLlt).1
  have hccL : cc ≠ L := Ne.symm (below L hLlt).2.2
  have hCI : I ≠ H2.objs.size := (below I hIlt).1
  have hDI : I ≠ s₂.heap.objs.size := (below I hIlt).2.1
  have hccI : I ≠ cc := (below I hIlt).2.2
  have offC : ∀ p ∈ news, p.1 ≠ H2.objs.size := fun p hp => (below _ (Heap.lt_size (N p hp).1)).1
  have offD : ∀ p ∈ news, p.1 ≠ s₂.heap.objs.size := fun p hp => (below _ (Heap.lt_size (N p hp).1)).2.1
  have offcc : ∀ p ∈ news, p.1 ≠ cc := fun p hp => (below _ (Heap.lt_size (N p hp).1)).2.2
  have off1 : Off1 s₂.heap.objs.size news := Off3.one (I := I) (C := H2.objs.size) (Off3.of fun p hp => ⟨off p hp, offC p hp, offD p hp⟩)
  have hxl : Env.kindOf (compEnvC scope ((x, cc) :: cl) H2.objs.size env) x = some .cell := relabel_cell (env := env) hx
  have loop : ∀ s₃ : Shared, s₃ = { s₂ with heap := h₁ } →
      codeAny (model prog w) A (.compLoop (.ListComp elt [⟨.Name x px, iter, [], 0⟩] scope pos) 0 (.ref I) (.ref s₂.heap.objs.size) (compEnvC scope ((x, cc) :: cl) H2.objs.size env))
        (RR (.ref s₂.heap.objs.size) H2.objs.size) s₃ := by
    rintro s₃ rfl
    refine codeAny_compLoop_tests
      (fun k s' => ∃ h' tk i ys m' v₀, s' = { s₂ with heap := h', toks := tk } ∧ i ≤ n ∧ k = n + 1 - i ∧ IntsAre ys ((List.range i).map f) ∧ IsRangeIter h' I (0 + ((i : Nat) : Int) * 1) ((n : Int) - ((i : Nat) : Int)) 1 ∧ Fr h₀ L h' m ∧ h'.Ns H2.objs.size m' ∧ h'.IsCell cc v₀ ∧ News h₀ L h' ((s₂.heap.objs.size, lst ys) :: news)) ?_ (n + 1)
      ⟨h₁, _, 0, [], _, none, rfl, Nat.zero_le _, rfl, .nil, hst₁, F.keeps old, hns₁, ⟨_, hcc₁, rfl⟩, fun p hp => ?_⟩
    · rintro k s' ⟨h', tk, i, ys, m', v₀, rfl, hi, rfl, hys, hst', F', hn', hcell', N'⟩
      by_cases hlt : i < n
      · refine W.item i _ _ _ hlt hst' fun v h₂ tk₂ hPv hst₂ hk₂ => ?_
        obtain ⟨ti, rfl⟩ := hPv
        have hcell₂ : h₂.IsCell cc v₀ := by obtain ⟨o, ho, hd⟩ := hcell'; exact ⟨o, hk₂ _ o (by simpa using Ne.symm hccI) ho, hd⟩
        refine wpAny_assign_Name (wpAny_storeName_cell (by simpa [compEnvC, relabel] using hkind) hxl (show List.lookup x ((x, cc) :: cl) = some cc by simp) hcell₂ (fun h₃ hv₃ hs₃ => ?_))
        refine wpAny_tests_nil ?_
        simp only [if_true]
        obtain ⟨oc, heoc, hoc⟩ := hv₃
        have hst₃ : IsRangeIter h₃ I (0 + ((i + 1 : Nat) : Int) * 1) ((n : Int) - ((i + 1 : Nat) : Int)) 1 := (hs₃.2 I hccI).trans hst₂
        have hn₂ : h₂.Ns H2.objs.size m' := hn'.at' fun o e => hk₂ _ o (by simpa using Ne.symm hCI) e
        have hn₃ : h₃.Ns H2.objs.size m' := hn₂.sameBut hs₃ (Ne.symm hccC)
        obtain ⟨oC, heC, hoC⟩ := ns_obj hn₃
        have F₃ : Fr h₀ L h₃ m := (fr_but F' hk₂ hIL hI₀).change hs₃ hccL hcc₀
        have N₂ : News h₀ L h₂ ((s₂.heap.objs.size, lst ys) :: news) := news_but N' hk₂ fun p hp => by
          rcases List.mem_cons.mp hp with rfl | hp
          · exact Ne.symm hDI
          · exact off p hp
        have N₃ : News h₀ L h₃ ((I, _) :: (cc, oc) :: (H2.objs.size, oC) :: (s₂.heap.objs.size, lst ys) :: news) := fun p hp => by
          rcases List.mem_cons.mp hp with rfl | hp
          · exact ⟨hst₃, Ne.symm hIL, hI₀⟩
          · rcases List.mem_cons.mp hp with rfl | hp
            · exact ⟨heoc, hccL, hcc₀⟩
            · rcases List.mem_cons.mp hp with rfl | hp
              · exact ⟨heC, hCL, hC₀⟩
              · have z := N₂ p hp
                refine ⟨hs₃.extBut _ _ ?_ z.1, z.2⟩
                rcases List.mem_cons.mp hp with rfl | hp
                · exact hDcc
                · exact offcc p hp
        have hv0 : (0 : Int) + (i : Int) * 1 = ((i : Nat) : Int) := by (first | lia | omega)
        rw [hv0] at hoc
        refine wpAny_mono (turn i ti ys I _ cc oc H2.objs.size oC s₂.heap.objs.size h₃ _ hlt hoc F₃ N₃) (fun y s₄ h₄ => ?_) fun _ _ e => e.elim
        obtain ⟨t', h₄, tk₄, rfl, rfl, F₄, N₄⟩ := h₄
        have zI := (N₄ _ (.head _)).1
        have zcc := (N₄ _ (.tail _ (.head _))).1
        have zC := (N₄ _ (.tail _ (.tail _ (.head _)))).1
        have zD := (N₄ _ (.tail _ (.tail _ (.tail _ (.head _))))).1
        have hyl := hys.length
        rw [List.length_map, List.length_range] at hyl
        refine append_at (hsz := by show ys.toArray.size ≤ sizeLine; rw [List.size_toArray, hyl]; exact Nat.le_trans hi hsz) zD fun h₅ hs₅ hD₅ => ?_
        refine ⟨n + 1 - (i + 1), by (first | lia | omega), h₅, tk₄, i + 1, ys ++ [.int (f i) t'], _, _, rfl, hlt, rfl, ints_snoc hys, (hs₅.2 I hDI).trans zI, F₄.change hs₅ hDL hD₀,
          (hoC.ns zC).sameBut hs₅ (Ne.symm hDC), ⟨oc, (hs₅.2 cc (Ne.symm hDcc)).trans zcc, hoc⟩, fun p hp => ?_⟩
        rcases List.mem_cons.mp hp with rfl | hp
        · exact ⟨hD₅.trans (congrArg some (lst_snoc ys _)), hDL, hD₀⟩
        · have z := N₄ _ (.tail _ (.tail _ (.tail _ (.tail _ hp))))
          exact ⟨hs₅.extBut _ _ (offD p hp) z.1, z.2⟩
      · obtain rfl : i = n := Nat.le_antisymm hi (Nat.not_lt.mp hlt)
        refine W.done _ _ _ hst' fun h₂ tk₂ hk₂ => ?_
        exact hRR _ _ h₂ tk₂ _ ys (fr_but F' hk₂ hIL hI₀) (news_but N' hk₂ fun p hp => by
          rcases List.mem_cons.mp hp with rfl | hp
          · exact Ne.symm hDI
          · exact off p hp) off1 (hn'.at' fun o e => hk₂ _ o (by simpa using Ne.symm hCI) e) hC₀ hD₀ hCL hDL (Ne.symm hDC) offC hys
    · rcases List.mem_cons.mp hp with rfl | hp
      · exact ⟨hacc, hDL, hD₀⟩
      · exact ⟨old _ _ (N p hp).1, (N p hp).2⟩
  exact codeAny_compStart_list (loop _ rfl) (W.self 0 _ _ _ hst₁ (loop _ rfl))
/-- where the iterator stands -/
inductive SrcC (prog : Program) (w : World) (A : Around) (h₀ : Heap) (L : Addr) (m : Str → Option Value) (env : Env) (elt : Expr) (x : Str) (scope : Scope) (cl : List (Str × Addr)) (Q : Value → Shared → Prop) (it : Value) (s₂ : Shared) : Prop
  | mk (n : Nat) (f : Nat → Int) (I : Addr) (news : List (Addr × Obj)) :
    it = .ref I →
    n ≤ sizeLine →
    IsRangeIter s₂.heap I (0 + ((0 : Nat) : Int) * 1) ((n : Int) - ((0 : Nat) : Int)) 1 →
    Fr h₀ L s₂.heap m →
    News h₀ L s₂.heap news →
    L ≠ I →
    h₀.get? I = none →
    (∀ p ∈ news, p.1 ≠ I) →
    TurnC prog w A h₀ L m env elt x scope cl n f news s₂ →
    (∀ D ys h tk, Fr h₀ L h m → News h₀ L h ((D, lst ys) :: news) → IntsAre ys ((List.range n).map f) → Q (.ref D) { s₂ with heap := h, toks := tk }) → SrcC prog w A h₀ L m env elt x scope cl Q it s₂
theorem ListComp_C {pos : Pos} {Q : Value → Shared → Prop} (hh : A.handled = none) (F₀ : Fr h₀ L s.heap m) (hclos : closureFor scope env = pure cl) (hkind : scope.kind = .function)
    (hnames : ∀ z ∈ scope.names, z.2 = .local → scope.names.lookup z.1 = some .local) (hx : scope.names.lookup x = some .cell) (hcs : ∀ n, cellsFrom n scope.names cl = (x, n) :: cl) (hps : ∀ h, pushCells h scope.names = h.push { cls := .type "cell", data := .cell none })
    (h : wpAny (model prog w) A (eval iter env) (fun xv s₁ => Hold (wpAny (model prog w) A (pyIter xv) (SrcC prog w A h₀ L m env elt x scope cl Q) E s₁)) E s)
    (hs : ∀ x, foldedSetIterable iter env x = pure x) :
    wpAny (model prog w) A (eval (.ListComp elt [⟨.Name x px, iter, [], 0⟩] scope pos) env) Q E s := by
  rw [eval_ListComp]
  refine wpAny_comprehension_free (use := none) rfl hs hclos hkind hnames (wpAny_mono h (fun xv s₁ h₁ => wpAny_mono h₁ (fun it s₂ h₂ => ?_) fun _ _ e => e) fun _ _ e => e)
  obtain ⟨n, f, I, news, rfl, hsz, hst, F, N, hIL, hI0, off, turn, fin⟩ := h₂
  refine block_C (RR := fun acc C => compPost (model prog w) A E none Q acc C) hh hsz hkind hx hcs hps hst F N hIL hI0 off turn ?_
  intro D C h' tk m' ys F' N' o1 hn hC₀ hD₀ hCL hDL hCD offC hys
  refine ⟨m', hn, fun h'' hs'' => fin D ys h'' tk (F'.change hs'' hCL hC₀) (fun p hp => ?_) hys⟩
  refine ⟨hs''.extBut _ _ ?_ (N' p hp).1, (N' p hp).2⟩
  rcases List.mem_cons.mp hp with rfl | hp
  · exact Ne.symm hCD
  · exact offC p hp
theorem srcC_range {Q : Value → Shared → Prop} {news : List (Addr × Obj)} {r : Addr} {t u v : Tok} {n : Nat} (F : Fr h₀ L s.heap m) (N : News h₀ L s.heap news) (hr : IsRange s.heap r 0 n 1 t u v) (hz : n ≤ 1000000)
    (turn : ∀ g', TurnC prog w A h₀ L m env elt x scope cl n f news { s with heap := g' })
    (fin : ∀ D ys h tk, Fr h₀ L h m → News h₀ L h ((D, lst ys) :: news) → IntsAre ys ((List.range n).map f) → Q (.ref D) { s with heap := h, toks := tk }) :
    wpAny (model prog w) A (pyIter (.ref r)) (SrcC prog w A h₀ L m env elt x scope cl Q) E s := by
  refine wpAny_pyIter_range hr (small_of (by (first | lia | omega)) (by (first | lia | omega)) (by decide) (by decide)) ?_
  rw [show Builtin.Range.rangeSize 0 (n : Int) 1 = ((n : Nat) : Int) from size_up (by decide) (by (first | lia | omega)) (by (first | lia | omega))]
  refine ⟨n, f, s.heap.objs.size, news, rfl, by rw [sizeLine_eq]; (first | lia | omega), ?_, F.push _, fun p hp => ⟨Heap.get?_push_of_some _ (N p hp).1, (N p hp).2⟩, Nat.ne_of_lt F.ns.lt, next_is_new F, fun p hp => Nat.ne_of_lt (Heap.lt_size (N p hp).1), turn _, fin⟩
  simpa using Heap.get?_push_size s.heap (o := { cls := .type "range_iterator", data := .fields #[rawInt 0, rawInt (n : Nat), rawInt 1] }) rfl
end
end Mine
end
section
set_option maxRecDepth 100000
namespace Mine
section
local macro_rules | `(tactic| walk_at "eval ListComp") => `(tactic| walk_at "Z1")
local macro_rules | `(tactic| walk_at "exec Assign cons ListComp") => `(tactic| walk_at "Z2")
local macro_rules | `(tactic| walk_at "exec For Name Name cons nil") => `(tactic| walk_at "Z3")
local macro_rules | `(tactic| walk_at "exec For Name Call cons nil") => `(tactic| walk_at "Z3")
local macro_rules | `(tactic| walk_at "binaryOp BitAnd int int") => `(tactic| (with_reducible first | refine and63 ?_ | refine and255 ?_))
local macro_rules | `(tactic| walk_at "eval ListComp") => `(tactic| (k_here; (rename Fr _ _ _ _ => lF'); (refine' ListComp_C ?hh lF' ?hclos ?hkind ?hnames ?hx ?hcs ?hps ?_ ?hs); (case hh => with_unfolding_all rfl); (case hclos => with_unfolding_all rfl); (case hkind => with_unfolding_all rfl); (case hnames => decide); (case hx => with_unfolding_all rfl); (case hcs => intro _; with_unfolding_all rfl); (case hps => intro _; with_unfolding_all rfl); (case hs => intro _; with_unfolding_all rfl)))
local macro_rules | `(tactic| walk_at "eval Call") => `(tactic| (with_unfolding_all refine Call_ ?_))
/-- eight bits' number -/
def octT (bits : List Int) (i j : Nat) : Int := bits.getD (8 * (i : Int) + (0 + (j : Int) * 1)).toNat 0 * 2 ^ (7 - (0 + (j : Int) * 1)).toNat
def octI (bits : List Int) (i : Nat) : Int := ((List.range 8).map (octT bits i)).sum
def octL (bits : List Int) : List Int := (List.range (bits.length / 8)).map (octI bits)
theorem bit_or {bits : List Int} (hb : ∀ k ∈ bits, k = 0 ∨ k = 1) (i : Nat) : bits.getD i 0 = 0 ∨ bits.getD i 0 = 1 := by
  rw [List.getD_eq_getElem?_getD]
  cases h : bits[i]? with
  | none => exact .inl rfl
  | some k => exact hb k (List.mem_of_getElem? h)
theorem bit_fits {bits : List Int} (hb : ∀ k ∈ bits, k = 0 ∨ k = 1) (i : Nat) (c : Int) : IntMulOk (bits.getD i 0) c := by
  refine IntMulOk.of_left ?_
  rcases bit_or hb i with h | h <;> rw [h] <;> decide
theorem octI_range {bits : List Int} (hb : ∀ k ∈ bits, k = 0 ∨ k = 1) (i : Nat) : 0 ≤ octI bits i ∧ octI bits i < 256 := by
  have h := fun j => bit_or hb (8 * (i : Int) + (0 + (j : Int) * 1)).toNat
  have e : octI bits i = octT bits i 0 + (octT bits i 1 + (octT bits i 2 + (octT bits i 3 + (octT bits i 4 + (octT bits i 5 + (octT bits i 6 + (octT bits i 7 + 0))))))) := rfl
  rw [e]
  have k0 : ∀ (j : Nat) (c : Int), (2 : Int) ^ (7 - (0 + (j : Int) * 1)).toNat = c → 0 ≤ c → 0 ≤ octT bits i j ∧ octT bits i j ≤ c := fun j c hc h0 => by
    unfold octT
    rw [hc]
    rcases h j with h | h <;> rw [h] <;> (first | lia | omega)
  have a0 := k0 0 128 (by decide) (by decide)
  have a1 := k0 1 64 (by decide) (by decide)
  have a2 := k0 2 32 (by decide) (by decide)
  have a3 := k0 3 16 (by decide) (by decide)
  have a4 := k0 4 8 (by decide) (by decide)
  have a5 := k0 5 4 (by decide) (by decide)
  have a6 := k0 6 2 (by decide) (by decide)
  have a7 := k0 7 1 (by decide) (by decide)
  (first | lia | omega)
set_option maxHeartbeats 4000000 in
theorem octets_spec {w : World} {mean : ExcName → Option Value} {mg mb : Str → Option Value} {dp un : Nat} {gd : Option (List Code)} {fr : Option (List Env)} {s : Shared} {E Q : Value → Shared → Prop}
    {l : Addr} {vs : List Value} {bits : List Int}
    (X : (Mine.hd.heap_1_39 w.params).In s.heap) (T : Top Mine.hd.view_1_40 (looseW Mine.hd.view_1_40 [Str.ofString "PostError", Str.ofString "encoded"]) mean mg mb s.heap) (hdp : dp + 10 < recursionLimit) (hun : un + 100 < cLine)
    (hl0 : s.heap.IsList l vs.toArray) (hi : IntsAre vs bits) (hb : ∀ k ∈ bits, k = 0 ∨ k = 1) (hl : bits.length ≤ 10000)
    (ret : ∀ b t h' tk', (∀ b o, s.heap.get? b = some o → h'.get? b = some o) → KBw.bInts b = octL bits → Q (.bytes b t) { s with heap := h', toks := tk' }) :
    wpAny (model PySem.Challenge.rw_no0352_01.row.prog w) (Ar dp un gd fr) (call (.ref 158) [.ref l]) Q E s := by
  revert X; k_fill; intro X
  refine' enterC1 (binds := [(Str.ofString "bits", .ref l)]) (x1 := Str.ofString "bits") (c1 := some (.ref l)) (lm := fun y => none) X T ?k6 ?k7 ?k8 ?k9 ?kB ?kD ?kc ?kl ?hc1 ?_ ?c2 ?c3 ?c4; (case k6 => k_is); (case k7 => k_is); (case k8 => (simp only [recursionLimit] at *; (first | lia | omega))); (case k9 => exact BindsTo.of_eq rfl); (case kB => exact rfl); (case kD => decide +kernel); (case kc => intro _; rfl); (case kl => intro _; rfl); (case hc1 => intro _; rfl); (case c2 => exact rfl); (case c3 => exact rfl); (case c4 => exact rfl)
  intro L' h' tk' o1 F' N' d1
  try dsimp only
  try k_fold
  have hvl := hi.length
  k_steps
  rename Fr _ _ _ _ => F0
  rename News _ _ _ _ => N0
  rename IsRange _ _ _ _ _ _ _ _ => R0
  show wpAny _ _ (pyIter _) _ _ _
  have e9 : ((bits.length : Int)).fdiv 8 = ((bits.length / 8 : Nat) : Int) := by rw [Int.fdiv_eq_ediv_of_nonneg _ (by decide)]; (first | lia | omega)
  rw [e9] at R0
  refine srcC_range (n := bits.length / 8) (f := octI bits) F0 N0 R0 (by (first | lia | omega)) (fun g' => ?_) ?_
  · clear F0 N0 R0
    intro i t ys I oI cc oc C oC D h tk hi hoc F₂ N₂
    (try k_fold)
    k_steps
    rename Fr _ _ _ _ => F3
    rename News _ _ _ _ => N3
    rename IsRange _ _ _ _ _ _ _ _ => R3
    show wpAny _ _ (pyIter _) _ _ _
    refine src_range (n := 8) rfl F3 N3 R3 (by decide) (by decide) (by rw [sizeLine_eq]; (first | lia | omega)) (fun g2 => ?_)
    refine rest_inv (fun j zs nw => nw = [(I, oI), (cc, oc), (C, oC), (D, LCg.lst ys), (L' + 1, o1)] ∧ IntsAre zs ((List.range j).map (octT bits i))) ⟨rfl, .nil⟩ ?_ ?_
    · clear F3 N3 R3
      rintro j zs nw v I2 oI2 C2 oC2 D2 m₂ hh tk2 E' hj ⟨rfl, hzs⟩ ⟨tv, rfl⟩ hC2 hx2 F₄ N₄ off ne
      (try k_fold)
      k_steps
      refine mul_int (hm := bit_fits hb _ _) ?_
      rename Fr _ _ _ _ => Fy
      rename News _ _ _ _ => Ny
      exact LCg.CompEnd.intro Fy Ny [(I, oI), (cc, oc), (C, oC), (D, LCg.lst ys), (L' + 1, o1)] (fun _ h => h) off trivial ⟨rfl, ints_snoc hzs⟩
    · clear F3 N3 R3
      rintro zs nw ⟨rfl, hzs⟩
      intro D2 hh tk2 F₄ N₄ off
      (try dsimp only)
      (try k_fold)
      k_steps
      all_goals (rename Fr _ _ _ _ => Fz; rename News _ _ _ _ => Nz; first | exact Fz | exact Nz | exact fun p hp => Nz p (.tail _ hp))
  · clear F0 N0 R0
    intro D ys h tk F₂ N₂ hys
    (try dsimp only)
    (try k_fold)
    k_steps
    rename Fr _ _ _ _ => Fx
    rename News _ _ _ _ => Nx
    refine KBa.make_K Fx Nx rfl (News.isList Nx (.head _)) hys (fun k hk => by
      obtain ⟨j, _, rfl⟩ := List.mem_map.mp hk
      exact octI_range hb j) (by simp; (first | lia | omega)) (fun h5 t5 k5 F5 N5 hI => ?_)
    exact ret _ _ _ _ F5.keep (KBa.ints_make hI)
end
end Mine
end
theorem Mine.quiet_C158 : True := by w_top off; trivial
local macro_rules | `(tactic| walk_at "Z4") => `(tactic| (k_here; (rename Fr _ _ _ _ => lF'); (refine' ListComp_C ?hh lF' ?hclos ?hkind ?hnames ?hx ?hcs ?hps ?_ ?hs); (case hh => with_unfolding_all rfl); (case hclos => with_unfolding_all rfl); (case hkind => with_unfolding_all rfl); (case hnames => decide); (case hx => with_unfolding_all rfl); (case hcs => intro _; with_unfolding_all rfl); (case hps => intro _; with_unfolding_all rfl); (case hs => intro _; with_unfolding_all rfl)))
section
set_option maxRecDepth 100000
namespace Mine
/-- the octets' number, 256 a place -/
def tot (ks : List Int) : Int := ks.foldl (fun a c => 256 * a + c) 0
theorem tot_succ {ks : List Int} {i : Nat} {k : Int} (h : ks[i]? = some k) : tot (ks.take (i + 1)) = 256 * tot (ks.take i) + k := by
  unfold tot
  rw [List.take_add_one, h]; simp
theorem tot_bound : ∀ (ks : List Int), (∀ k ∈ ks, 0 ≤ k ∧ k < 256) → 0 ≤ tot ks ∧ tot ks < 256 ^ ks.length := by
  suffices H : ∀ (ks : List Int) (a : Int) (n : Nat), (∀ k ∈ ks, 0 ≤ k ∧ k < 256) → 0 ≤ a → a < 256 ^ n → 0 ≤ ks.foldl (fun a c => 256 * a + c) a ∧ ks.foldl (fun a c => 256 * a + c) a < 256 ^ (n + ks.length) by
    intro ks h
    have := H ks 0 0 h (by (first | lia | omega)) (by decide)
    rw [Nat.zero_add] at this
    exact this
  intro ks
  induction ks with
  | nil => intro a n _ h0 h1; exact ⟨h0, h1⟩
  | cons k r ih =>
    intro a n h h0 h1
    have hk := h k (.head _)
    rw [List.foldl_cons, List.length_cons, show n + (r.length + 1) = (n + 1) + r.length by (first | lia | omega)]
    refine ih _ _ (fun k hk => h k (.tail _ hk)) (by (first | lia | omega)) ?_
    rw [Int.pow_succ]; (first | lia | omega)
/-- the group's number, shifted to whole signs -/
def gcT (ks : List Int) (n : Nat) : Int := tot ks * 2 ^ (6 * ((n : Int) + 1) - 8 * (n : Int)).toNat
def gcI (ks sks : List Int) (n i : Nat) : Int := sks.getD ((gcT ks n).fdiv (2 ^ (6 * ((n : Int) + 1 - 1 + (i : Int) * -1)).toNat) % 64).toNat 0
def gcL (ks sks : List Int) (n : Nat) : List Int := (List.range (n + 1)).map (gcI ks sks n)
section
local macro_rules | `(tactic| walk_at "eval ListComp") => `(tactic| walk_at "Z1")
local macro_rules | `(tactic| walk_at "exec Assign cons ListComp") => `(tactic| walk_at "Z2")
local macro_rules | `(tactic| walk_at "exec For Name Name cons nil") => `(tactic| walk_at "Z3")
local macro_rules | `(tactic| walk_at "exec For Name Call cons nil") => `(tactic| walk_at "Z3")
local macro_rules | `(tactic| walk_at "binaryOp BitAnd int int") => `(tactic| (with_reducible first | refine and63 ?_ | refine and255 ?_))
local macro_rules | `(tactic| walk_at "call builtin:len") => `(tactic| (refine len_to (by assumption) (by (first | lia | omega)) ?_))
-- the library's own rule for the shift does not end where the head lies in the same file
local macro_rules | `(tactic| walk_at "binaryOp RShift int int") => `(tactic| (refine rshift_int (by (first | lia | omega)) ?_))
set_option maxHeartbeats 4000000 in
theorem group_codes_spec {w : World} {mean : ExcName → Option Value} {mg mb : Str → Option Value} {dp un : Nat} {gd : Option (List Code)} {fr : Option (List Env)} {s : Shared} {E Q : Value → Shared → Prop}
    {bb sg : Array UInt8} {tb ts : Tok} {ks sks : List Int} {n : Nat}
    (X : (Mine.hd.heap_1_39 w.params).In s.heap) (T : Top Mine.hd.view_1_40 (looseW Mine.hd.view_1_40 [Str.ofString "PostError", Str.ofString "encoded"]) mean mg mb s.heap) (hdp : dp + 10 < recursionLimit) (hun : un + 100 < cLine)
    (hb : KBw.bInts bb = ks) (hs : KBw.bInts sg = sks) (hsl : sks.length = 64) (hn : ks.length = n) (hbs : (bb.size : Int) = n) (h1 : 1 ≤ n) (h3 : n ≤ 3)
    (ret : ∀ D ys h' tk', (∀ b o, s.heap.get? b = some o → h'.get? b = some o) → s.heap.get? D = none → h'.get? D = some (LCg.lst ys) → IntsAre ys (gcL ks sks n) → Q (.ref D) { s with heap := h', toks := tk' }) :
    wpAny (model PySem.Challenge.rw_no0352_01.row.prog w) (Ar dp un gd fr) (call (.ref 71) [.bytes bb tb, .bytes sg ts]) Q E s := by
  revert X; k_fill; intro X
  refine' enterC2 (binds := [(Str.ofString "octets", .bytes bb tb), (Str.ofString "alphabet", .bytes sg ts)]) (x1 := Str.ofString "total") (x2 := Str.ofString "alphabet") (c1 := none) (c2 := some (.bytes sg ts)) (lm := fun y => if y = Str.ofString "octets" then some (.bytes bb tb) else none) X T ?k6 ?k7 ?k8 ?k9 ?kB ?kD ?kc ?kl ?hc1 ?hc2 ?_ ?c2 ?c3 ?c4; (case k6 => k_is); (case k7 => k_is); (case k8 => (simp only [recursionLimit] at *; (first | lia | omega))); (case k9 => exact BindsTo.of_eq rfl); (case kB => exact rfl); (case kD => decide +kernel); (case kc => intro _; rfl); (case kl => intro _; rfl); (case hc1 => intro _; rfl); (case hc2 => intro _; rfl); (case c2 => exact rfl); (case c3 => exact rfl); (case c4 => exact rfl)
  intro L' h' tk' o1 o2 F' N' d1 d2
  try dsimp only
  try k_fold
  k_steps
  rename Fr _ _ _ _ => F0
  rename News _ _ _ _ => N0
  rename Obj.data _ = _ => dT
  show wpAny _ _ (pyIter _) _ _ _
  refine KBmo.iter_bytesN (fun i m nw => (∃ o t, nw = [(L' + 1 + 1, o), (L' + 1, o2)] ∧ o.data = .cell (some (.int (tot (ks.take i)) t))) ∧ ∀ z, z ≠ Str.ofString "code" → m z = (fun y => if y = Str.ofString "octets" then some (.bytes bb tb) else none) z) hb rfl F0 N0 ⟨⟨_, _, rfl, dT⟩, fun _ _ => rfl⟩ ?_ ?_
  · clear F0 N0 dT
    rintro i k t m₁ nw h tk own hk0 hk1 hk2 hoff ⟨⟨o, t0, rfl, ho⟩, hm⟩ F₁ N₁
    replace F₁ := fr_turn hm F₁
    have hT := tot_bound (ks.take i) (fun k hk => KBw.ints_in (b := bb) (by rw [hb]; exact List.mem_of_mem_take hk))
    have hT2 : tot (ks.take i) < 16777216 := Int.lt_of_lt_of_le hT.2 (by
      have : (ks.take i).length ≤ 3 := by rw [List.length_take]; (first | lia | omega)
      generalize (ks.take i).length = j at this
      have : j = 0 ∨ j = 1 ∨ j = 2 ∨ j = 3 := by (first | lia | omega)
      rcases this with rfl | rfl | rfl | rfl <;> decide)
    have hT1 := hT.1
    clear hT
    have hTs := tot_succ hk0
    simp only [List.cons_append, List.nil_append] at N₁
    try k_fold
    k_steps
    rename Fr _ _ _ _ => Fz
    rename News _ _ _ _ => Nz
    rename Obj.data _ = _ => dz
    exact inv_end (nx := [(L' + 1 + 1, _), (L' + 1, o2)]) Fz Nz ⟨⟨_, _, rfl, by rw [hTs]; exact dz⟩, fun z hz => by simp [hz]⟩ rfl rfl
  · clear F0 N0 dT
    rintro m₁ nw h tk ⟨⟨o, t0, rfl, ho⟩, hm⟩ F₁ N₁
    replace F₁ := fr_done hm F₁
    rw [List.take_of_length_le (Nat.le_refl _)] at ho
    have hT := tot_bound ks (fun k hk => KBw.ints_in (b := bb) (by rw [hb]; exact hk))
    rw [hn] at hT
    have hT2 : tot ks < 16777216 := Int.lt_of_lt_of_le hT.2 (by
      have : n = 1 ∨ n = 2 ∨ n = 3 := by (first | lia | omega)
      rcases this with rfl | rfl | rfl <;> decide)
    have hT1 := hT.1
    clear hT
    try k_fold
    k_steps
    rename Fr _ _ _ _ => Fz
    rename News _ _ _ _ => Nz
    rename Obj.data _ = _ => dz
    rename IsRange _ _ _ _ _ _ _ _ => Rz
    show wpAny _ _ (pyIter _) _ _ _
    refine src_range (n := n + 1) rfl Fz Nz Rz (small_of (by (first | lia | omega)) (by (first | lia | omega)) (by decide) (by decide)) (size_down (by (first | lia | omega))) (by rw [sizeLine_eq]; (first | lia | omega)) (fun g => ?_)
    refine rest_inv (fun i ys nw => nw = [(L' + 1 + 1, _), (L' + 1, o2)] ∧ IntsAre ys ((List.range i).map (gcI ks sks n))) ⟨rfl, .nil⟩ ?_ ?_
    · rintro i ys nw v I oI C oC D m₂ hh tk' E' hi ⟨rfl, hys⟩ ⟨t', rfl⟩ hC hx F₂ N₂ off ne
      try k_fold
      k_steps
      rename Fr _ _ _ _ => Fy
      rename News _ _ _ _ => Ny
      exact LCg.CompEnd.intro Fy Ny [(L' + 1 + 1, _), (L' + 1, o2)] (fun _ h => h) off trivial ⟨rfl, ints_snoc hys⟩
    · rintro ys nw ⟨rfl, hys⟩
      intro D hh tk' Fy Ny off
      exact ret D ys hh tk' Fy.keep (Ny _ (.head _)).2.2 (Ny _ (.head _)).1 hys
end
end Mine
end
theorem Mine.quiet_C71 : True := by w_top off; trivial
local macro_rules | `(tactic| walk_at "Z5") => `(tactic| (refine len_to (by assumption) (by (first | lia | omega)) ?_))
section
set_option maxRecDepth 100000
namespace Mine
def chunk3 (ks : List Int) (i : Nat) : List Int := (ks.drop (3 * i)).take 3
def encP (ks sks : List Int) (i : Nat) : List Int := (List.range i).flatMap fun j => gcL (chunk3 ks j) sks (chunk3 ks j).length
theorem encP_succ (ks sks : List Int) (i : Nat) : encP ks sks (i + 1) = encP ks sks i ++ gcL (chunk3 ks i) sks (chunk3 ks i).length := by
  unfold encP
  rw [List.range_succ, List.flatMap_append]; simp
theorem gcL_length (ks sks : List Int) (n : Nat) : (gcL ks sks n).length = n + 1 := by simp [gcL]
theorem chunk3_le (ks : List Int) (i : Nat) : (chunk3 ks i).length ≤ 3 := by unfold chunk3; rw [List.length_take]; (first | lia | omega)
theorem encP_length (ks sks : List Int) (i : Nat) : (encP ks sks i).length ≤ 4 * i := by
  induction i with
  | zero => exact Nat.le_refl _
  | succ i ih => rw [encP_succ, List.length_append, gcL_length]; have := chunk3_le ks i; (first | lia | omega)
theorem getD_in {ks : List Int} {j : Nat} (h : ∀ k ∈ ks, 0 ≤ k ∧ k < 256) : 0 ≤ ks.getD j 0 ∧ ks.getD j 0 < 256 := by
  rw [List.getD_eq_getElem?_getD]
  cases e : ks[j]? with
  | none => exact ⟨by decide, by decide⟩
  | some k => exact h k (List.mem_of_getElem? e)
theorem encP_in {sks : List Int} (h : ∀ k ∈ sks, 0 ≤ k ∧ k < 256) (ks : List Int) (i : Nat) : KBa.In (encP ks sks i) := by
  intro n hn
  unfold encP at hn
  obtain ⟨j, _, hj⟩ := List.mem_flatMap.mp hn
  unfold gcL at hj
  obtain ⟨q, _, rfl⟩ := List.mem_map.mp hj
  exact getD_in h
section
local macro_rules | `(tactic| walk_at "eval ListComp") => `(tactic| walk_at "Z1")
local macro_rules | `(tactic| walk_at "exec Assign cons ListComp") => `(tactic| walk_at "Z2")
local macro_rules | `(tactic| walk_at "exec For Name Name cons nil") => `(tactic| walk_at "Z3")
local macro_rules | `(tactic| walk_at "exec For Name Call cons nil") => `(tactic| walk_at "Z3")
local macro_rules | `(tactic| walk_at "binaryOp BitAnd int int") => `(tactic| (with_reducible first | refine and63 ?_ | refine and255 ?_))
local macro_rules | `(tactic| walk_at "subscriptTail") => `(tactic| (k_here; (with_reducible show wpAny _ _ (subscriptTail _ (Expr.Slice _ _ none _) (Value.bytes _ _) (Value.ref _)) _ _ _); (with_reducible rename Fr _ _ _ _ => F'); (with_reducible rename News _ _ _ _ => N'); (first | (refine' slice_nn (s := ⟨_, _, _, _, _⟩) F' N' ?kb ?k0 ?k1 ?kz ?_ ?hs ?ht; (case kb => assumption); (case k0 => (first | lia | omega)); (case k1 => (first | lia | omega))) | (refine' slice_to (s := ⟨_, _, _, _, _⟩) F' N' ?kb ?k1 ?kz ?_ ?hs ?ht; (case kb => assumption); (case k1 => (first | lia | omega))) | (refine' slice_from (s := ⟨_, _, _, _, _⟩) F' N' ?kb ?k1 ?kz ?_ ?hs ?ht; (case kb => assumption); (case k1 => (first | lia | omega)))); (case kz => (first | lia | omega)); (case hs => with_unfolding_all rfl); (case ht => intro _; with_unfolding_all rfl); intro b' h' t' k' F' N' hb'))
local macro_rules | `(tactic| walk_at "call builtin:len") => `(tactic| walk_at "Z5")
set_option maxHeartbeats 4000000 in
theorem part_encoded_spec {w : World} {mean : ExcName → Option Value} {mg mb : Str → Option Value} {dp un : Nat} {gd : Option (List Code)} {fr : Option (List Env)} {s : Shared} {E Q : Value → Shared → Prop}
    {bb sg : Array UInt8} {tb ts : Tok} {ks sks : List Int} {n : Nat}
    (X : (Mine.hd.heap_1_39 w.params).In s.heap) (T : Top Mine.hd.view_1_40 (looseW Mine.hd.view_1_40 [Str.ofString "PostError", Str.ofString "encoded"]) mean mg mb s.heap) (hdp : dp + 20 < recursionLimit) (hun : un + 200 < cLine)
    (hb : KBw.bInts bb = ks) (hs : KBw.bInts sg = sks) (hsl : sks.length = 64) (hn : ks.length = n) (hbs : (bb.size : Int) = n) (h3 : n ≤ 1000)
    (ret : ∀ b t h' tk', (∀ b o, s.heap.get? b = some o → h'.get? b = some o) → KBw.bInts b = encP ks sks ((n + 2) / 3) → Q (.bytes b t) { s with heap := h', toks := tk' }) :
    wpAny (model PySem.Challenge.rw_no0352_01.row.prog w) (Ar dp un gd fr) (call (.ref 83) [.bytes bb tb, .bytes sg ts]) Q E s := by
  revert X; k_fill; intro X
  refine' enter (binds := [(Str.ofString "octets", .bytes bb tb), (Str.ofString "alphabet", .bytes sg ts)]) X T ?k6 ?k7 ?k8 ?k9 ?kB ?_ ?c2 ?c3 ?c4 ?c5; (case k6 => k_is); (case k7 => k_is); (case k8 => (simp only [recursionLimit] at *; (first | lia | omega))); (case k9 => exact BindsTo.of_eq rfl); (case c5 => decide); (case kB => exact locs rfl); (case c2 => exact rfl); (case c3 => exact rfl); (case c4 => exact rfl)
  intro L' h' F' N'
  try dsimp only
  try k_fold
  k_steps
  rename_i C h2 l1 h1 F1 N1 h0 tk0 t1 u1 v1 Rz Fz Nz Kz
  show wpAny _ _ (pyIter _) _ _ _
  refine iter_rangeN (n := (n + 2) / 3) (fun i m nw => (∃ ys k, nw = [(C, listOf ys.toArray k)] ∧ IntsAre ys (encP ks sks i)) ∧ ∀ z, z ≠ Str.ofString "begin" → m z = (fun y => if y = Str.ofString "codes" then some (Value.ref C) else List.lookup y [(Str.ofString "octets", Value.bytes bb tb), (Str.ofString "alphabet", Value.bytes sg ts)].reverse) z) rfl Rz (small_of (by (first | lia | omega)) (by (first | lia | omega)) (by decide) (by decide)) (size_up (by decide) (by (first | lia | omega)) (by (first | lia | omega))) Fz Nz ⟨⟨[], 0, rfl, .nil⟩, fun _ _ => rfl⟩ ?_ ?_
  · clear F1 N1 Fz Nz Kz Rz
    rintro i t m₁ nw h tk own hi hoff ⟨⟨ys, k, rfl, hys⟩, hm⟩ F₁ N₁
    replace F₁ := fr_turn hm F₁
    simp only [List.cons_append, List.nil_append] at N₁
    have hlen := encP_length ks sks i
    rw [← hys.length] at hlen
    try k_fold
    k_steps
    rename Fr _ _ _ _ => Fc
    rename News _ _ _ _ => Nc
    rename KBw.bInts _ = _ => hc
    have ec : (ks.drop (0 + (i : Int) * 3).toNat).take (0 + (i : Int) * 3 + 3 - (0 + (i : Int) * 3)).toNat = chunk3 ks i := by
      unfold chunk3
      rw [show (0 + (i : Int) * 3).toNat = 3 * i by (first | lia | omega), show (0 + (i : Int) * 3 + 3 - (0 + (i : Int) * 3)).toNat = 3 by (first | lia | omega)]
    rw [ec] at hc
    have hcl : 1 ≤ (chunk3 ks i).length := by unfold chunk3; rw [List.length_take, List.length_drop]; (first | lia | omega)
    refine' group_codes_spec (n := (chunk3 ks i).length) (Frag.In.keeps X Fc.keep) (T.keeps Fc.keep) ?hdp ?hun hc hs hsl rfl ?hbs hcl (chunk3_le ks i) ?ret
    case hdp => simp only [recursionLimit] at *; (first | lia | omega)
    case hun => (have := cLine_is; show un + 3 + _ < _; (first | lia | omega))
    case hbs => rw [← KBw.ints_length, hc]
    case ret =>
    intro D zs hh tk' hk hD hg hz
    have Fd := Fc.keeps hk
    have Nd := news_more Fc Nc hk hD hg
    have hDC : D ≠ C := ne_new Nc (.head _) hD
    have hzl := hz.length
    rw [gcL_length] at hzl
    (try dsimp only)
    try k_fold
    k_steps
    refine extend_in_ints (own := [(D, LCg.lst zs)]) (rest := own) Fd Nd (apart1 hDC) (fun p hp => hoff p hp C (.head _)) hg hys hz (fun h' n' F' N' hi' => ?_) (by rw [sizeLine_eq, List.size_toArray]; have := chunk3_le ks i; (first | lia | omega))
    (try dsimp only)
    try k_fold
    k_steps
    rename Fr _ _ _ _ => Fz
    rename News _ _ _ _ => Nz
    exact inv_end (nx := [(C, listOf (ys ++ zs).toArray n')]) (all := (C, listOf (ys ++ zs).toArray n') :: own) Fz (fun p hp => Nz p (.tail _ hp)) ⟨⟨_, _, rfl, by rw [encP_succ]; exact hi'⟩, fun z hz => by simp [hz]⟩ rfl rfl
  · clear F1 N1 Fz Nz Kz Rz
    rintro m₁ nw h tk ⟨⟨ys, k, rfl, hys⟩, hm⟩ F₁ N₁
    replace F₁ := fr_done hm F₁
    have hlen := encP_length ks sks ((n + 2) / 3)
    rw [← hys.length] at hlen
    try k_fold
    k_steps
    rename Fr _ _ _ _ => Fz
    rename News _ _ _ _ => Nz
    refine KBa.make_K Fz Nz rfl (News.isList Nz (.head _)) hys (encP_in (fun k hk => KBw.ints_in (b := sg) (by rw [hs]; exact hk)) ks _) (by rw [← hys.length]; (first | lia | omega)) (fun h' t' k' F' N' hI => ?_)
    exact ret _ _ _ _ F'.keep (KBa.ints_make hI)
end
end Mine
end
theorem Mine.quiet_C83 : True := by w_top off; trivial
local macro_rules | `(tactic| walk_at "Z6") => `(tactic| (k_here; (with_reducible show wpAny _ _ (subscriptTail _ (Expr.Slice _ _ none _) (Value.bytes _ _) (Value.ref _)) _ _ _); (with_reducible rename Fr _ _ _ _ => F'); (with_reducible rename News _ _ _ _ => N'); (first | (refine' slice_nn (s := ⟨_, _, _, _, _⟩) F' N' ?kb ?k0 ?k1 ?kz ?_ ?hs ?ht; (case kb => assumption); (case k0 => (first | lia | omega)); (case k1 => (first | lia | omega))) | (refine' slice_to (s := ⟨_, _, _, _, _⟩) F' N' ?kb ?k1 ?kz ?_ ?hs ?ht; (case kb => assumption); (case k1 => (first | lia | omega))) | (refine' slice_from (s := ⟨_, _, _, _, _⟩) F' N' ?kb ?k1 ?kz ?_ ?hs ?ht; (case kb => assumption); (case k1 => (first | lia | omega)))); (case kz => (first | lia | omega)); (case hs => with_unfolding_all rfl); (case ht => intro _; with_unfolding_all rfl); intro b' h' t' k' F' N' hb'))
section
set_option maxRecDepth 100000
namespace Mine
/-- the sixty-four signs -/
def SGN : List Int := [65, 66, 67, 68, 69, 70, 71, 72, 73, 74, 75, 76, 77, 78, 79, 80, 81, 82, 83, 84, 85, 86, 87, 88, 89, 90, 97, 98, 99, 100, 101, 102, 103, 104, 105, 106, 107, 108, 109, 110, 111, 112, 113, 114, 115, 116, 117, 118, 119, 120, 121, 122, 48, 49, 50, 51, 52, 53, 54, 55, 56, 57, 43, 47]
theorem sgn_length : SGN.length = 64 := rfl
theorem sgn_ints : KBw.bInts #[65, 66, 67, 68, 69, 70, 71, 72, 73, 74, 75, 76, 77, 78, 79, 80, 81, 82, 83, 84, 85, 86, 87, 88, 89, 90, 97, 98, 99, 100, 101, 102, 103, 104, 105, 106, 107, 108, 109, 110, 111, 112, 113, 114, 115, 116, 117, 118, 119, 120, 121, 122, 48, 49, 50, 51, 52, 53, 54, 55, 56, 57, 43, 47] = SGN := rfl
theorem rep_one {α : Type} (n : Nat) (a : α) : (List.replicate n [a]).flatten = List.replicate n a := by
  induction n with
  | zero => rfl
  | succ n ih => rw [List.replicate_succ, List.flatten_cons, ih, List.replicate_succ]; rfl
theorem sgn_in : ∀ k ∈ SGN, 0 ≤ k ∧ k < 256 := by decide
section
local macro_rules | `(tactic| walk_at "eval ListComp") => `(tactic| walk_at "Z1")
local macro_rules | `(tactic| walk_at "exec Assign cons ListComp") => `(tactic| walk_at "Z2")
local macro_rules | `(tactic| walk_at "exec For Name Name cons nil") => `(tactic| walk_at "Z3")
local macro_rules | `(tactic| walk_at "exec For Name Call cons nil") => `(tactic| walk_at "Z3")
local macro_rules | `(tactic| walk_at "binaryOp BitAnd int int") => `(tactic| (with_reducible first | refine and63 ?_ | refine and255 ?_))
local macro_rules | `(tactic| walk_at "subscriptTail") => `(tactic| walk_at "Z6")
local macro_rules | `(tactic| walk_at "call builtin:len") => `(tactic| walk_at "Z5")
local macro_rules | `(tactic| walk_at "binaryOp Add bytes bytes") => `(tactic| ((with_reducible show wpAny _ _ (binaryOp Operator.Add (Value.bytes _ _) (Value.bytes _ _)) _ _ _); (refine KBa.add_K (by assumption) (by assumption) (by (first | lia | omega)) ?_); intro t' k' ha'))
set_option maxHeartbeats 4000000 in
theorem one_line_spec {w : World} {mean : ExcName → Option Value} {mg mb : Str → Option Value} {dp un : Nat} {gd : Option (List Code)} {fr : Option (List Env)} {s : Shared} {E Q : Value → Shared → Prop}
    {bb : Array UInt8} {tb : Tok} {ks : List Int} {n : Nat}
    (X : (Mine.hd.heap_1_39 w.params).In s.heap) (T : Top Mine.hd.view_1_40 (looseW Mine.hd.view_1_40 [Str.ofString "PostError", Str.ofString "encoded"]) mean mg mb s.heap) (hdp : dp + 30 < recursionLimit) (hun : un + 300 < cLine)
    (hb : KBw.bInts bb = ks) (hn : ks.length = n) (hbs : (bb.size : Int) = n) (h3 : n ≤ 1000)
    (ret : ∀ b t h' tk', (∀ b o, s.heap.get? b = some o → h'.get? b = some o) → KBw.bInts b = encP ks SGN ((n + 2) / 3) ++ List.replicate ((-(n : Int)) % 3).toNat 61 → Q (.bytes b t) { s with heap := h', toks := tk' }) :
    wpAny (model PySem.Challenge.rw_no0352_01.row.prog w) (Ar dp un gd fr) (call (.ref 90) [.bytes bb tb]) Q E s := by
  revert X; k_fill; intro X
  refine' enter (binds := [(Str.ofString "octets", .bytes bb tb)]) X T ?k6 ?k7 ?k8 ?k9 ?kB ?_ ?c2 ?c3 ?c4 ?c5; (case k6 => k_is); (case k7 => k_is); (case k8 => (simp only [recursionLimit] at *; (first | lia | omega))); (case k9 => exact BindsTo.of_eq rfl); (case c5 => decide); (case kB => exact locs rfl); (case c2 => exact rfl); (case c3 => exact rfl); (case c4 => exact rfl)
  intro L' h' F' N'
  try dsimp only
  try k_fold
  k_steps
  rename Fr _ _ _ _ => Fc
  rename News _ _ _ _ => Nc
  refine' part_encoded_spec (n := n) (Frag.In.keeps X Fc.keep) (T.keeps Fc.keep) ?hdp ?hun hb sgn_ints sgn_length hn hbs h3 ?ret
  case hdp => simp only [recursionLimit] at *; (first | lia | omega)
  case hun => (have := cLine_is; show un + 3 + _ < _; (first | lia | omega))
  case ret =>
  intro b1 t1 hh1 tk1 hk1 hb1
  have Fd := Fc.keeps hk1
  have Nd := Nc.grown hk1
  (try dsimp only)
  (try k_fold)
  k_steps
  rename Fr _ _ _ _ => Fe
  rename News _ _ _ _ => Ne
  rename IntsAre _ _ => hi
  have e3 : ((-(n : Int)).fmod 3) = (-(n : Int)) % 3 := Int.fmod_eq_emod_of_nonneg _ (by decide)
  rw [rep_one, rep_one, e3] at hi
  rw [rep_one, e3] at Ne
  refine KBa.make_K Fe Ne rfl (News.isList Ne (.head _)) hi (fun k hk => by rw [List.eq_of_mem_replicate hk]; decide) (by rw [List.length_replicate]; (first | lia | omega)) (fun h5 t5 k5 F5 N5 hI => ?_)
  have hb5 := KBa.ints_make hI
  have hl1 := encP_length ks SGN ((n + 2) / 3)
  have hl2 : (List.replicate ((-(n : Int)) % 3).toNat (61 : Int)).length ≤ 3 := by rw [List.length_replicate]; (first | lia | omega)
  (try dsimp only)
  (try k_fold)
  k_steps
  rename KBw.bInts _ = _ => ha
  exact ret _ _ _ _ F5.keep ha
end
end Mine
end
theorem Mine.quiet_C90 : True := by w_top off; trivial
local macro_rules | `(tactic| walk_at "Z7") => `(tactic| ((with_reducible show wpAny _ _ (binaryOp Operator.Add (Value.bytes _ _) (Value.bytes _ _)) _ _ _); (refine KBa.add_K (by assumption) (by assumption) (by (first | lia | omega)) ?_); intro t' k' ha'))
section
open PySem.Spec PySem.Builtin
set_option maxRecDepth 100000
namespace Mine
theorem slot_join : Slot "bytes" "join" "bytes.join" :=
  .of (owner := "bytes") (n := "join") (by rw [typeLookup_type, builtinLookup_eq_fast]; kernel_rfl) (by decide +kernel) (by decide +kernel) (by decide +kernel)
    (by first | exact .inl (by decide +kernel) | exact .inr (by decide +kernel)) (by rw [isSubtype_type]; kernel_rfl)
theorem type_join : typeOf (.builtin "bytes.join") = pure (.type "method_descriptor") := by show builtinType _ = _; rw [builtinType_eq_fast]; kernel_rfl
theorem entry_join : entryFor table "bytes.join" = some Builtin.«bytes.join» := entryFor_of_tree (by kernel_rfl)
theorem args_join (a b : Value) : argsOk "bytes.join" ⟨[a, b], []⟩ := by
  unfold argsOk; rw [signature?_of (id := "bytes.join") (n := ['n', 'i', 'o', 'j']) (o := ['s', 'e', 't', 'y', 'b']) (by kernel_rfl) FB.owner_bytes]; kernel_rfl
/-- a list's items are bytes -/
inductive BytesAre : List Value → List (Array UInt8) → Prop
  | nil : BytesAre [] []
  | cons (b : Array UInt8) (t : Tok) {vs : List Value} {ps : List (Array UInt8)} : BytesAre vs ps → BytesAre (.bytes b t :: vs) (b :: ps)
theorem BytesAre.length {vs : List Value} {ps : List (Array UInt8)} (h : BytesAre vs ps) : vs.length = ps.length := by
  induction h with
  | nil => rfl
  | cons _ _ _ ih => rw [List.length_cons, List.length_cons, ih]
theorem BytesAre.snoc {vs : List Value} {ps : List (Array UInt8)} (h : BytesAre vs ps) (b : Array UInt8) (t : Tok) : BytesAre (vs ++ [.bytes b t]) (ps ++ [b]) := by
  induction h with
  | nil => exact .cons _ _ .nil
  | cons b' t' _ ih => exact .cons b' t' ih
theorem BytesAre.get {vs : List Value} {ps : List (Array UInt8)} (h : BytesAre vs ps) : ∀ (i : Nat) (b : Array UInt8), ps[i]? = some b → ∃ t : Tok, vs[i]? = some (Value.bytes b t) := by
  induction h with
  | nil => intro i b e; simp at e
  | cons b' t' _ ih =>
    intro i b e
    cases i with
    | zero => simp at e; subst e; exact ⟨t', by simp⟩
    | succ i => simpa using ih i b (by simpa using e)
theorem BytesAre.off {vs : List Value} {ps : List (Array UInt8)} (h : BytesAre vs ps) : ∀ k, ((vs.take k).map fun v => (v, (Option.none : Option Value))).any (fun x => x.1.onHeap) = false := by
  induction h with
  | nil => intro k; simp
  | cons b' t' _ ih =>
    intro k
    cases k with
    | zero => rfl
    | succ k => rw [List.take_succ_cons, List.map_cons, List.any_cons, ih k]; rfl
theorem buffer_full {id : String} {b : Array UInt8} {t : Tok} {f : Bool} : Bytes.buffer? id (.bytes b t) f = pure (some b) := by
  unfold Bytes.buffer?
  rw [KBy.special_eq KBy.look_buffer, KBy.own_buffer, KBy.own_release]
  kernel_rfl
theorem take_eq {id : String} {b : Array UInt8} {t : Tok} : Bytes.takeBufferQuiet? id (.bytes b t) 0 = pure (some (b, none)) := by
  unfold Bytes.takeBufferQuiet? Bytes.takeBuffer?
  rw [KBy.special_eq KBy.look_buffer, KBy.own_buffer, buffer_full]
  kernel_rfl
theorem letGo_all {M : Model} {A : Around} {E : Value → Shared → Prop} {keep : List Value} : ∀ (vs : List Value) (s : Shared) (Q : Unit → Shared → Prop), Q () s → wpAny M A (Bytes.joinLetGo (vs.map fun v => (v, none)) keep) Q E s
  | [], s, Q, h => wpAny_pure h
  | v :: r, s, Q, h => by
    show wpAny _ _ (PySem.letGo _ _ >>= fun _ => _) _ _ _
    exact wpAny_bind (wpAny_letGo (letGo_all r s Q h))
/-- lists of ints joined by a list of ints -/
def joinL (sep : List Int) : List (List Int) → List Int
  | [] => []
  | [x] => x
  | x :: y :: r => x ++ sep ++ joinL sep (y :: r)
theorem join_fold (sep : Array UInt8) : ∀ (ps : List (Array UInt8)) (i : Nat) (out : Array UInt8), 0 < i → KBw.bInts ((ps.zipIdx i).foldl (fun out (p, i) => (if i > 0 then out ++ sep else out) ++ p) out) = KBw.bInts out ++ (ps.flatMap fun p => KBw.bInts sep ++ KBw.bInts p)
  | [], i, out, _ => by simp
  | p :: r, i, out, h => by
    rw [List.zipIdx_cons, List.foldl_cons, join_fold sep r (i + 1) _ (by (first | lia | omega))]
    simp only [gt_iff_lt, h, if_true, List.flatMap_cons]
    rw [KBw.ints_app (KBw.ints_app rfl rfl) rfl]
    simp only [List.append_assoc]
theorem joinL_flat (sep : List Int) (x : List Int) : ∀ (r : List (List Int)), joinL sep (x :: r) = x ++ r.flatMap fun p => sep ++ p
  | [] => by simp [joinL]
  | y :: r => by
    rw [joinL, joinL_flat sep y r, List.flatMap_cons]
    simp only [List.append_assoc]
theorem joined_ints (sep : Array UInt8) (ps : List (Array UInt8)) : KBw.bInts (Bytes.joined sep ps) = joinL (KBw.bInts sep) (ps.map KBw.bInts) := by
  cases ps with
  | nil => rfl
  | cons p r =>
    unfold Bytes.joined
    rw [List.zipIdx_cons, List.foldl_cons, join_fold sep r (0 + 1) _ (by decide)]
    simp only [gt_iff_lt, Nat.lt_irrefl, if_false, List.map_cons]
    rw [joinL_flat, KBw.ints_app rfl rfl]
    simp [List.flatMap_map, KBw.bInts]
theorem joined_size (sep : Array UInt8) (ps : List (Array UInt8)) : (Bytes.joined sep ps).size ≤ (ps.map (·.size)).sum + sep.size * ps.length := by
  rw [← KBw.ints_length, joined_ints]
  have key : ∀ r : List (Array UInt8), (joinL (KBw.bInts sep) (r.map KBw.bInts)).length ≤ (r.map (·.size)).sum + sep.size * r.length := by
    intro r
    induction r with
    | nil => simp [joinL]
    | cons p r ih =>
      cases r with
      | nil => simp [joinL, KBw.ints_length]
      | cons q r =>
        simp only [List.map_cons, joinL, List.length_append, KBw.ints_length, List.sum_cons, List.length_cons] at ih ⊢
        rw [Nat.mul_succ]
        (first | lia | omega)
  exact key ps
theorem foldl_sizes : ∀ (ps : List (Array UInt8)) (a : Nat), ps.foldl (fun a p => a + p.size) a = a + (ps.map (·.size)).sum
  | [], a => by simp
  | p :: r, a => by rw [List.foldl_cons, foldl_sizes r, List.map_cons, List.sum_cons]; (first | lia | omega)
section
variable {prog : Program} {w : World} {A : Around} {E : Value → Shared → Prop} {s : Shared}
theorem bytes_join {l : Addr} {sb : Array UInt8} {ts : Tok} {vs : List Value} {ps : List (Array UInt8)} {Q : Value → Shared → Prop} (hl : s.heap.IsList l vs.toArray) (hv : BytesAre vs ps)
    (hz : (ps.map (·.size)).sum + sb.size * ps.length ≤ 16777216)
    (h : ∀ t' k, Q (.bytes (Bytes.joined sb ps) t') { s with toks := k }) :
    wpAny (model prog w) A (call (.builtin "bytes.join") [.bytes sb ts, .ref l]) Q E s := by
  obtain ⟨o, ho, hc, n, hd⟩ := hl
  refine wpAny_call_entry slot_join (typeIs_bytes s sb ts) entry_join ?_ (args_join _ _)
  show wpAny _ _ (selfAndOne _ _ >>= fun r => _) _ _ _
  refine wpAny_bind (wpAny_of_eq (a := (.bytes sb ts, .ref l)) rfl ?_)
  show wpAny _ _ (Bytes.joinItems (.ref l) >>= fun r => _) _ _ _
  unfold Bytes.joinItems
  refine wpAny_bind (wpAny_bind (wpAny_typeOf (T := "list") ⟨o, ho, hc⟩ ?_))
  refine wpAny_pure ?_
  unfold seqItems?
  refine wpAny_bind (wpAny_bind (wpAny_load ho ?_))
  rw [hd]
  refine wpAny_pure ?_
  dsimp only
  have single : ∀ b t, vs = [Value.bytes b t] → ps = [b] → Q (.bytes b t) s := by
    rintro b t rfl rfl
    have := h t s.toks
    have e : Bytes.joined sb [b] = b := by unfold Bytes.joined; simp
    rw [e] at this; exact this
  cases hv with
  | cons b t hr =>
    cases hr with
    | nil =>
      show wpAny _ _ (typeOf (.bytes b t) >>= fun r => _) _ _ _
      refine wpAny_bind (wpAny_typeOf (typeIs_bytes s b t) ?_)
      exact wpAny_bind (wpAny_rule (wpAny_pure ⟨_, rfl, single b t rfl rfl⟩))
    | cons b' t' hr =>
      have hv : BytesAre _ _ := .cons b t (.cons b' t' hr)
      rw [if_pos (by rfl)]
      refine wpAny_bind ?_
      obtain ⟨vs, hvs⟩ : ∃ vs, vs = _ :: _ :: _ := ⟨Value.bytes b t :: Value.bytes b' t' :: _, rfl⟩
      obtain ⟨ps, hps⟩ : ∃ ps, ps = _ :: _ :: _ := ⟨b :: b' :: _, rfl⟩
      rw [← hvs, ← hps] at hv
      rw [← hps] at hz h
      rw [← hvs] at hd
      rw [← hvs]
      clear hvs hps single
      rw [Std.Legacy.Range.forIn_eq_forIn_range']
      refine wpAny_forIn_list _ (fun rest st s' => ∃ k, rest = List.range' k (ps.length - k) ∧ k ≤ ps.length ∧ st = ((ps.take k).toArray, (vs.take k).map fun v => (v, none)) ∧ s' = s) _ ?turn ?fin _ _ ?start
      case start => exact ⟨0, by simp [Std.Legacy.Range.size, hv.length], Nat.zero_le _, rfl, rfl⟩
      case turn =>
        rintro x rest st s' ⟨k, hr, hk, rfl, rfl⟩
        have hlt : k < ps.length := by
          cases e : ps.length - k with
          | zero => rw [e] at hr; cases hr
          | succ j => (first | lia | omega)
        obtain ⟨j, hj⟩ : ∃ j, ps.length - k = j + 1 := ⟨ps.length - k - 1, by (first | lia | omega)⟩
        rw [hj, List.range'_succ] at hr
        injection hr with hx hr
        subst hx
        obtain ⟨t, ht⟩ := hv.get x ps[x] (by simp [hlt])
        have hg : vs.toArray.getD x Value.none = .bytes ps[x] t := by
          simp only [Array.getD_eq_getD_getElem?, List.getElem?_toArray, ht]; rfl
        have hany : ((vs.take x).map fun v => (v, (Option.none : Option Value))).any (fun x => x.1.onHeap) = false := hv.off x
        refine wpAny_bind (wpAny_bind (wpAny_load ho ?_))
        rw [hd]
        refine wpAny_pure ?_
        dsimp only
        rw [hg, hany]
        refine wpAny_bind (wpAny_holding (wpAny_of_eq take_eq ?_))
        dsimp only
        refine wpAny_bind (wpAny_bind (wpAny_load ho ?_))
        rw [hd]
        refine wpAny_pure ?_
        dsimp only
        rw [if_neg (by simp)]
        refine wpAny_pure ⟨x + 1, ?_, hlt, ?_, rfl⟩
        · rw [hr, show ps.length - (x + 1) = j by (first | lia | omega)]
        · rw [List.take_add_one, List.take_add_one, ht, List.getElem?_eq_getElem hlt, List.map_append, List.push_toArray]
          rfl
      case fin =>
        rintro st s' ⟨k, hr, hk, rfl, rfl⟩
        have hk' : k = ps.length := by
          cases e : ps.length - k with
          | zero => (first | lia | omega)
          | succ j => rw [e] at hr; cases hr
        subst hk'
        rw [List.take_of_length_le (Nat.le_refl _), List.take_of_length_le (by rw [hv.length]; exact Nat.le_refl _)]
        dsimp only
        refine wpAny_bind (wpAny_of_eq (a := sb) rfl ?_)
        have hpz : ps.toArray.foldl (fun x1 x2 => x1 + x2.size) (sb.size * (ps.toArray.size - 1)) ≤ 16777216 := by
          rw [← Array.foldl_toList, List.toList_toArray, foldl_sizes, show ps.toArray.size = ps.length from List.size_toArray ..]
          have : sb.size * (ps.length - 1) ≤ sb.size * ps.length := Nat.mul_le_mul_left _ (Nat.sub_le _ _)
          (first | lia | omega)
        rw [KBy.tooLong_not hpz]
        rw [if_neg Bool.false_ne_true]
        refine wpAny_bind (wpAny_mkBytes ?_ (Nat.le_trans (joined_size sb ps) (by rw [sizeLine_eq]; exact hz)))
        refine wpAny_bind (wpAny_holding (wpAny_point ?_))
        refine wpAny_bind (letGo_all _ _ _ ?_)
        exact wpAny_pure ⟨_, rfl, h _ _⟩
  | nil =>
    rw [if_pos (by rfl)]
    refine wpAny_bind ?_
    rw [Std.Legacy.Range.forIn_eq_forIn_range']
    show wpAny _ _ (forIn ([] : List Nat) _ _) _ _ _
    rw [List.forIn_nil]
    refine wpAny_pure ?_
    dsimp only
    refine wpAny_bind (wpAny_of_eq (a := sb) rfl ?_)
    rw [KBy.tooLong_not (by simp at hz ⊢)]
    rw [if_neg Bool.false_ne_true]
    refine wpAny_bind (wpAny_mkBytes ?_ (Nat.le_trans (joined_size sb []) (by rw [sizeLine_eq]; exact hz)))
    refine wpAny_bind (wpAny_holding (wpAny_point ?_))
    refine wpAny_bind (letGo_all [] _ _ ?_)
    exact wpAny_pure ⟨_, rfl, h _ _⟩
end
end Mine
end
section
open PySem.Spec PySem.Builtin
set_option maxRecDepth 100000
namespace Mine
theorem slot_index : Slot "bytes" "index" "bytes.index" :=
  .of (owner := "bytes") (n := "index") (by rw [typeLookup_type, builtinLookup_eq_fast]; kernel_rfl) (by decide +kernel) (by decide +kernel) (by decide +kernel)
    (by first | exact .inl (by decide +kernel) | exact .inr (by decide +kernel)) (by rw [isSubtype_type]; kernel_rfl)
theorem type_index : typeOf (.builtin "bytes.index") = pure (.type "method_descriptor") := by show builtinType _ = _; rw [builtinType_eq_fast]; kernel_rfl
theorem entry_index : entryFor table "bytes.index" = some Builtin.«bytes.index» := entryFor_of_tree (by kernel_rfl)
theorem args_index (a b : Value) : argsOk "bytes.index" ⟨[a, b], []⟩ := by
  unfold argsOk; rw [signature?_of (id := "bytes.index") (n := ['x', 'e', 'd', 'n', 'i']) (o := ['s', 'e', 't', 'y', 'b']) (by kernel_rfl) FB.owner_bytes]; kernel_rfl
theorem slot_split : Slot "bytes" "split" "bytes.split" :=
  .of (owner := "bytes") (n := "split") (by rw [typeLookup_type, builtinLookup_eq_fast]; kernel_rfl) (by decide +kernel) (by decide +kernel) (by decide +kernel)
    (by first | exact .inl (by decide +kernel) | exact .inr (by decide +kernel)) (by rw [isSubtype_type]; kernel_rfl)
theorem type_split : typeOf (.builtin "bytes.split") = pure (.type "method_descriptor") := by show builtinType _ = _; rw [builtinType_eq_fast]; kernel_rfl
theorem entry_split : entryFor table "bytes.split" = some Builtin.«bytes.split» := entryFor_of_tree (by kernel_rfl)
theorem args_split (a b : Value) : argsOk "bytes.split" ⟨[a, b], []⟩ := by
  unfold argsOk; rw [signature?_of (id := "bytes.split") (n := ['t', 'i', 'l', 'p', 's']) (o := ['s', 'e', 't', 'y', 'b']) (by kernel_rfl) FB.owner_bytes]; kernel_rfl
theorem byte_of {n : Int} (h0 : 0 ≤ n) (h1 : n < 256) : ((n.toNat.toUInt8.toNat : Nat) : Int) = n := byte_back h0 h1
theorem mem_ints {b : Array UInt8} {c : Int} (h0 : 0 ≤ c) (h1 : c < 256) : b.contains c.toNat.toUInt8 = decide (c ∈ KBw.bInts b) := by
  rw [Bool.eq_iff_iff, decide_eq_true_eq, Array.contains_iff_mem]
  unfold KBw.bInts
  rw [List.mem_map]
  constructor
  · intro h; exact ⟨_, Array.mem_toList_iff.mpr h, byte_of h0 h1⟩
  · rintro ⟨u, hu, e⟩
    have : u = c.toNat.toUInt8 := by
      apply UInt8.toNat_inj.mp
      have := byte_of h0 h1
      (first | lia | omega)
    rw [← this]; exact Array.mem_toList_iff.mp hu
theorem gives_contains {b : Array UInt8} {c : Int} {t u : Tok} (h0 : 0 ≤ c) (h1 : c < 256) : Gives («bytes.__contains__» ⟨[.bytes b t, .int c u], []⟩) (.val (.bool (decide (c ∈ KBw.bInts b)))) := by
  refine .of_wp fun M A E s Q hq => ?_
  show wpAny M A (Bytes.containsIn "bytes.__contains__" (.bytes b t) (.int c u) >>= fun r => _) _ E s
  refine wpAny_bind ?_
  unfold Bytes.containsIn
  show wpAny M A ((asIndex (.int c u)).attempt >>= fun r => _) _ E s
  refine wpAny_bind (wpAny_of_eq (a := .ok c) rfl ?_)
  refine wpAny_bind (wpAny_of_eq KBy.buffer_eq ?_)
  dsimp only
  rw [if_neg (by simp only [Bool.or_eq_true, decide_eq_true_eq]; (first | lia | omega))]
  rw [mem_ints h0 h1]
  exact wpAny_pure (wpAny_pure ⟨_, rfl, hq⟩)
/-- where in the row of signs a sign stands -/
theorem find_one {b : Array UInt8} {c : UInt8} : Bytes.find? b #[c] 0 b.size = (List.range b.size).find? fun i => b.extract i (i + 1) == #[c] := by
  unfold Bytes.find?
  simp
theorem special_int {c : Int} {t : Tok} {name : PySem.Str} {r : Option Value} (h : typeLookup (.type "int") name = pure r) : specialOf (.int c t) name = pure r := by
  have e : specialOf (.int c t) name = typeLookup (.type "int") name := rfl
  rw [e, h]
theorem buffer_int {id : String} {c : Int} {u : Tok} {f : Bool} : Bytes.buffer? id (.int c u) f = pure none := by
  unfold Bytes.buffer?
  rw [special_int (r := none) (by rw [typeLookup_type, builtinLookup_eq_fast]; kernel_rfl)]
  rfl
theorem index_int {c : Int} {u : Tok} : specialOf (.int c u) "__index__" = pure (some (.builtin "int.__index__")) := special_int (by rw [typeLookup_type, builtinLookup_eq_fast]; kernel_rfl)
section
variable {M : Model} {A : Around} {E : Value → Shared → Prop} {s : Shared} {b : Array UInt8} {t : Tok} {pl : Sem Bool} {Q : Value × List Value → Shared → Prop}
theorem meth_join (h : Q (.builtin "bytes.join", [.bytes b t]) s) : wpAny M A (getMethod (.bytes b t) "join" pl) Q E s := KBd.method_of (.bytes b t) (typeIs_bytes _ _ _) slot_join type_join KBd.noRef h
theorem meth_index (h : Q (.builtin "bytes.index", [.bytes b t]) s) : wpAny M A (getMethod (.bytes b t) "index" pl) Q E s := KBd.method_of (.bytes b t) (typeIs_bytes _ _ _) slot_index type_index KBd.noRef h
theorem meth_split (h : Q (.builtin "bytes.split", [.bytes b t]) s) : wpAny M A (getMethod (.bytes b t) "split" pl) Q E s := KBd.method_of (.bytes b t) (typeIs_bytes _ _ _) slot_split type_split KBd.noRef h
end
section
variable {prog : Program} {w : World} {A : Around} {E : Value → Shared → Prop} {s : Shared}
theorem in_bytes {b : Array UInt8} {c : Int} {t u : Tok} {Q : Value → Shared → Prop} (h0 : 0 ≤ c) (h1 : c < 256) (h : Q (.bool (decide (c ∈ KBw.bInts b))) s) : wpAny (model prog w) A (compareOp .In (.int c u) (.bytes b t)) Q E s :=
  in_gives (typeIs_bytes s b t) FB.slot_bytes_contains FB.entry_bytes_contains (FB.args_bytes_contains_2 _ _) (gives_contains h0 h1) h
theorem bytes_index {b : Array UInt8} {c : Int} {t u : Tok} {i : Nat} {Q : Value → Shared → Prop} (h0 : 0 ≤ c) (h1 : c < 256) (hi : Bytes.find? b #[c.toNat.toUInt8] 0 b.size = some i)
    (h : Q (.int i s.toks) { s with toks := s.toks + 1 }) : wpAny (model prog w) A (call (.builtin "bytes.index") [.bytes b t, .int c u]) Q E s := by
  refine wpAny_call_entry slot_index (typeIs_bytes s b t) entry_index ?_ (args_index _ _)
  show wpAny _ _ (Bytes.searchArgs .bytes "index" ⟨[.bytes b t, .int c u], []⟩ >>= fun r => _) _ _ _
  refine wpAny_bind ?_
  unfold Bytes.searchArgs
  refine wpAny_bind (wpAny_of_eq (a := (.bytes b t, [.int c u])) rfl ?_)
  refine wpAny_bind (wpAny_of_eq (a := none) rfl ?_)
  refine wpAny_bind (wpAny_of_eq (a := none) rfl ?_)
  dsimp only [List.headD]
  refine wpAny_bind (wpAny_of_eq buffer_int ?_)
  dsimp only
  refine wpAny_bind (wpAny_of_eq index_int ?_)
  refine wpAny_bind (wpAny_of_eq (a := c) rfl ?_)
  rw [if_neg (by simp only [Bool.or_eq_true, decide_eq_true_eq]; (first | lia | omega))]
  refine wpAny_bind (wpAny_pure ?_)
  refine wpAny_bind (wpAny_of_eq (a := b) rfl ?_)
  have ew : Bytes.window b.size none none = (0, (b.size : Int)) := by
    unfold Bytes.window
    simp only [Option.getD]
    rw [if_neg (by (first | lia | omega)), if_neg (by (first | lia | omega)), Int.min_self]
  rw [ew]
  dsimp only
  have hne : ¬ ((b.size : Int) - 0 < (#[c.toNat.toUInt8] : Array UInt8).size) := by
    intro hlt
    have hb : b.size = 0 := by
      have : (#[c.toNat.toUInt8] : Array UInt8).size = 1 := rfl
      (first | lia | omega)
    unfold Bytes.find? at hi
    rw [hb] at hi
    simp at hi
  rw [if_neg hne]
  refine wpAny_pure ?_
  dsimp only [Option.bind]
  rw [if_neg (by decide), show ((0 : Int).toNat) = 0 from rfl, Int.toNat_natCast, hi]
  exact wpAny_bind (wpAny_mkInt (wpAny_pure ⟨_, rfl, h⟩))
end
/-- where the row's 61s stand -/
def isSep (b : Array UInt8) (i : Nat) : Bool := b.extract i (i + 1) == #[61]
theorem occ_eq (b : Array UInt8) : Bytes.occurrences b #[61] 0 b.size = (List.range b.size).filter (isSep b) := by
  unfold Bytes.occurrences
  dsimp only
  rw [show b.size + 1 - (0 + (#[61] : Array UInt8).size) = b.size from rfl, show (fun x : Nat => x + 0) = _root_.id from rfl, List.map_id]
  have key : ∀ n : Nat, (((List.range n).foldl (fun (acc : List Nat × Nat) (i : Nat) => if (decide (i ≥ acc.2) && b.extract i (i + (#[61] : Array UInt8).size) == #[61]) = true then (i :: acc.1, i + (#[61] : Array UInt8).size) else acc) ([], 0)).1.reverse = (List.range n).filter (isSep b)) ∧
      ((List.range n).foldl (fun (acc : List Nat × Nat) (i : Nat) => if (decide (i ≥ acc.2) && b.extract i (i + (#[61] : Array UInt8).size) == #[61]) = true then (i :: acc.1, i + (#[61] : Array UInt8).size) else acc) ([], 0)).2 ≤ n := by
    intro n
    induction n with
    | zero => exact ⟨rfl, Nat.le_refl _⟩
    | succ n ih =>
      rw [List.range_succ, List.foldl_append, List.filter_append]
      generalize (List.range n).foldl _ _ = acc at ih
      obtain ⟨h1, h2⟩ := ih
      simp only [List.foldl_cons, List.foldl_nil]
      rw [decide_eq_true (show n ≥ acc.2 from h2), Bool.true_and]
      by_cases hs : isSep b n = true
      · rw [if_pos (by exact hs)]
        refine ⟨?_, ?_⟩
        · rw [List.reverse_cons, h1, List.filter_cons_of_pos hs]; rfl
        · exact Nat.le_refl _
      · rw [if_neg (by exact hs)]
        refine ⟨?_, Nat.le_succ_of_le h2⟩
        rw [h1, List.filter_cons_of_neg hs]; simp
  exact (key b.size).1
theorem isSep_iff {b : Array UInt8} {i : Nat} (h : i < b.size) : isSep b i = true ↔ (KBw.bInts b)[i]? = some 61 := by
  unfold isSep KBw.bInts
  rw [beq_iff_eq]
  have e : b.extract i (i + 1) = #[b[i]] := by
    apply Array.ext
    · simp; (first | lia | omega)
    · intro j h1 h2
      have : j = 0 := by simp at h2; exact h2
      subst this
      simp
  rw [e, List.getElem?_map, Array.getElem?_toList, Array.getElem?_eq_getElem h]
  simp only [Option.map_some, Option.some.injEq]
  constructor
  · intro q
    have : b[i] = 61 := by simpa using q
    rw [this]; rfl
  · intro q
    have : b[i] = 61 := by
      apply UInt8.toNat_inj.mp
      have h' : (b[i].toNat : Int) = 61 := q
      show b[i].toNat = 61
      (first | lia | omega)
    rw [this]
theorem between_head (b : Array UInt8) (p : Nat) (r : List Nat) : ∃ more, Bytes.between b 1 (p :: r) = b.extract 0 p :: more ∧ more.length = r.length + 1 ∧ ∀ x ∈ more, x.size ≤ b.size := by
  unfold Bytes.between
  rw [List.foldl_cons]
  have key : ∀ (r : List Nat) (parts : Array (Array UInt8)) (last k : Nat), (∃ more, parts.toList = b.extract 0 p :: more ∧ more.length = k ∧ ∀ x ∈ more, x.size ≤ b.size) →
      ∃ more, (r.foldl (fun (x : Array (Array UInt8) × Nat) (p : Nat) => match x with | (parts, last) => (parts.push (b.extract last p), p + 1)) (parts, last)).1.toList = b.extract 0 p :: more ∧ more.length = k + r.length ∧ ∀ x ∈ more, x.size ≤ b.size := by
    intro r
    induction r with
    | nil => intro parts last k h; exact h
    | cons q r ih =>
      intro parts last k ⟨more, h, hk, hx⟩
      rw [List.foldl_cons]
      obtain ⟨m2, h2, h3, h4⟩ := ih (parts.push (b.extract last q)) (q + 1) (k + 1) ⟨more ++ [b.extract last q], by rw [Array.toList_push, h]; rfl, by rw [List.length_append, hk]; rfl, fun x hm => by
        rcases List.mem_append.mp hm with hm | hm
        · exact hx x hm
        · rw [List.mem_singleton.mp hm, Array.size_extract]; (first | lia | omega)⟩
      exact ⟨m2, h2, by rw [h3, List.length_cons]; (first | lia | omega), h4⟩
  obtain ⟨more, hm, hk, hx⟩ := key r (#[].push (b.extract 0 p)) (p + 1) 0 ⟨[], by simp, rfl, fun _ h => nomatch h⟩
  dsimp only at hm ⊢
  generalize hst : List.foldl _ _ r = st at hm ⊢
  obtain ⟨parts, last⟩ := st
  dsimp only at hm ⊢
  refine ⟨more ++ [b.extract last], by rw [Array.toList_push, hm]; rfl, by rw [List.length_append, hk, Nat.zero_add]; rfl, fun x hxm => ?_⟩
  rcases List.mem_append.mp hxm with hxm | hxm
  · exact hx x hxm
  · rw [List.mem_singleton.mp hxm, Array.size_extract]; (first | lia | omega)
theorem take_until (ks : List Int) (p : Nat) (hp : ks[p]? = some 61) (hb : ∀ j, j < p → ks[j]? ≠ some 61) : ks.take p = ks.takeWhile (· != 61) := by
  induction ks generalizing p with
  | nil => simp at hp
  | cons k r ih =>
    cases p with
    | zero =>
      have : k = 61 := by simpa using hp
      subst this
      simp
    | succ p =>
      have hk : k ≠ 61 := by
        have := hb 0 (by (first | lia | omega))
        simpa using this
      rw [List.take_succ_cons, List.takeWhile_cons_of_pos (by simpa using hk), ih p (by simpa using hp) (fun j hj => by
        have := hb (j + 1) (by (first | lia | omega))
        simpa using this)]
theorem take_all (ks : List Int) (hb : ∀ j : Nat, ks[j]? ≠ some 61) : ks.takeWhile (· != 61) = ks := by
  induction ks with
  | nil => rfl
  | cons k r ih =>
    have hk : k ≠ 61 := by
      have := hb 0
      simpa using this
    rw [List.takeWhile_cons_of_pos (by simpa using hk), ih fun j => by
      have := hb (j + 1)
      simpa using this]
theorem mapM_new {M : Model} {A : Around} {E : Value → Shared → Prop} : ∀ (bs : List (Array UInt8)) (s : Shared) (Q : List Value → Shared → Prop), (∀ b ∈ bs, b.size ≤ sizeLine) → (∀ vs k, BytesAre vs bs → Q vs { s with toks := k }) → wpAny M A (bs.mapM Bytes.Kind.bytes.new) Q E s
  | [], s, Q, _, h => by
    rw [List.mapM_nil]
    exact wpAny_pure (h [] s.toks .nil)
  | b :: r, s, Q, hz, h => by
    rw [List.mapM_cons]
    refine wpAny_bind ?_
    show wpAny _ _ (mkBytes b) _ _ _
    refine wpAny_mkBytes ?_ (hz b (.head _))
    refine wpAny_bind (mapM_new r _ _ (fun b' hb' => hz b' (.tail _ hb')) (fun vs k hv => ?_))
    exact wpAny_pure (h _ k (.cons b _ hv))
section
variable {prog : Program} {w : World} {A : Around} {E : Value → Shared → Prop} {s : Shared} {h₀ : Heap} {L : Addr} {m : Str → Option Value} {news : List (Addr × Obj)}
/-- split at '=': of the list that comes back only the first item is told -/
theorem bytes_split {b : Array UInt8} {ks : List Int} {t u : Tok} {Q : Value → Shared → Prop} (hb : KBw.bInts b = ks) (hz : ks.length ≤ 1000)
    (h : ∀ (D : Addr) (vs : List Value) (h' : Heap) (k : Nat) (b0 : Array UInt8) (t0 : Tok), (∀ a o, s.heap.get? a = some o → h'.get? a = some o) → s.heap.get? D = none → h'.get? D = some (listOf vs.toArray 0) → vs.length ≤ 2000 → vs[0]? = some (.bytes b0 t0) → KBw.bInts b0 = ks.takeWhile (· != 61) → Q (.ref D) { s with heap := h', toks := k }) :
    wpAny (model prog w) A (call (.builtin "bytes.split") [.bytes b t, .bytes #[61] u]) Q E s := by
  have hbz : b.size = ks.length := by rw [← hb, KBw.ints_length]
  have fin : ∀ (vs : List Value) (k : Nat) (b0 : Array UInt8) (t0 : Tok), vs.length ≤ 2000 → vs[0]? = some (.bytes b0 t0) → KBw.bInts b0 = ks.takeWhile (· != 61) →
      wpAny (model prog w) A.in1 (newList vs >>= fun v => ret v) (fun fin s' => ∃ v, fin = PySem.Fin.done (.ret v) ∧ Q v s') E { s with toks := k } := by
    intro vs k b0 t0 hl h0 he
    refine wpAny_bind ?_
    refine wpAny_newObj_type ?_ (by show vs.toArray.size ≤ sizeLine; rw [List.size_toArray, sizeLine_eq]; (first | lia | omega))
    refine wpAny_pure ⟨_, rfl, h s.heap.objs.size vs _ k b0 t0 (fun a o e => Heap.get?_push_of_some _ e) (Heap.get?_none_of_le (Nat.le_refl _)) (Heap.get?_push_size _ rfl) hl h0 he⟩
  refine wpAny_call_entry slot_split (typeIs_bytes s b t) entry_split ?_ (args_split _ _)
  show wpAny _ _ (Bytes.bindOptional "bytes.split" "split" ["sep", "maxsplit"] [.bytes #[61] u] [] >>= fun r => _) _ _ _
  refine wpAny_bind (wpAny_of_eq (a := [some (.bytes #[61] u), none]) (by kernel_rfl) ?_)
  try dsimp only
  refine wpAny_bind (wpAny_pure ?_)
  refine wpAny_bind (wpAny_of_eq (a := b) rfl ?_)
  try dsimp only
  refine wpAny_bind (wpAny_bind (wpAny_of_eq KBy.buffer_eq (wpAny_pure ?_)))
  rw [if_neg (by decide)]
  have hocc : (if false = true then Bytes.occurrencesFromRight b #[61] (if (-1 : Int) < 0 then b.size + 1 else (-1 : Int).toNat) else (Bytes.occurrences b #[61] 0 b.size).take (if (-1 : Int) < 0 then b.size + 1 else (-1 : Int).toNat)) = (List.range b.size).filter (isSep b) := by
    rw [if_neg Bool.false_ne_true, if_pos (by decide), occ_eq, List.take_of_length_le]
    have := List.length_filter_le (isSep b) (List.range b.size)
    rw [List.length_range] at this
    (first | lia | omega)
  rw [hocc]
  have hlen : ((List.range b.size).filter (isSep b)).length ≤ b.size := by
    have := List.length_filter_le (isSep b) (List.range b.size)
    rwa [List.length_range] at this
  have hhead := List.head?_filter (p := isSep b) (l := List.range b.size)
  have hsep : ∀ i, i < b.size → (isSep b i = true ↔ ks[i]? = some 61) := fun i hi => by rw [← hb]; exact isSep_iff hi
  cases hp : (List.range b.size).filter (isSep b) with
  | nil =>
    have hno : ∀ j : Nat, ks[j]? ≠ some 61 := fun j hj => by
      have hjl : j < b.size := by rw [hbz]; exact (List.getElem?_eq_some_iff.mp hj).1
      have : j ∈ (List.range b.size).filter (isSep b) := List.mem_filter.mpr ⟨List.mem_range.mpr hjl, (hsep j hjl).mpr hj⟩
      rw [hp] at this; cases this
    rw [if_pos (by rfl)]
    refine wpAny_bind (wpAny_rule ?_)
    refine wpAny_bind (wpAny_bind (wpAny_typeOf (typeIs_bytes s b t) ?_))
    refine wpAny_pure ?_
    exact fin [.bytes b t] s.toks b t (by rw [List.length_singleton]; (first | lia | omega)) rfl (by rw [hb, take_all ks hno])
  | cons p r =>
    rw [hp] at hhead hlen
    have hf : (List.range b.size).find? (isSep b) = some p := hhead.symm
    have hpm : p ∈ (List.range b.size).filter (isSep b) := by rw [hp]; exact .head _
    have hpl : p < b.size := List.mem_range.mp (List.mem_filter.mp hpm).1
    have hp1 := (hsep p hpl).mp (List.mem_filter.mp hpm).2
    have hfirst : ∀ j, j < p → ks[j]? ≠ some 61 := fun j hj hq => by
      have := (List.find?_range_eq_some.mp hf).2.2 j hj
      rw [(hsep j (by (first | lia | omega))).mpr hq] at this
      cases this
    rw [if_neg (show ¬ ((p :: r).isEmpty = true) from Bool.false_ne_true)]
    obtain ⟨more, hm, hml, hmx⟩ := between_head b p r
    rw [List.length_cons] at hlen
    refine wpAny_bind ?_
    show wpAny _ _ ((Bytes.between b 1 (p :: r)).mapM Bytes.Kind.bytes.new) _ _ _
    rw [hm]
    have hz' : ∀ x ∈ b.extract 0 p :: more, x.size ≤ sizeLine := fun x hx => by
      rw [sizeLine_eq]
      rcases List.mem_cons.mp hx with rfl | hx
      · rw [Array.size_extract]; (first | lia | omega)
      · have := hmx x hx; (first | lia | omega)
    refine mapM_new _ _ _ hz' (fun vs k hv => ?_)
    have hvl := hv.length
    rw [List.length_cons, hml] at hvl
    obtain ⟨t0, ht0⟩ := hv.get 0 (b.extract 0 p) rfl
    refine fin vs k (b.extract 0 p) t0 (by (first | lia | omega)) ht0 ?_
    rw [← take_until ks p hp1 hfirst, ← hb]
    unfold KBw.bInts
    rw [Array.toList_extract]
    simp [List.map_take]
end
end Mine
end
section
set_option maxRecDepth 100000
namespace Mine
/-- a list in pieces of w -/
def pieces (ks : List Int) (w n : Nat) : List (List Int) := (List.range n).map fun i => (ks.drop (i * w)).take w
def nPieces (len w : Nat) : Nat := (len + (w - 1)) / w
theorem nPieces_le {len w : Nat} (hw : 1 ≤ w) : len ≤ nPieces len w * w := by
  unfold nPieces
  have h := Nat.div_add_mod (len + (w - 1)) w
  have h2 := Nat.mod_lt (len + (w - 1)) (show 0 < w by (first | lia | omega))
  rw [Nat.mul_comm] at h
  (first | lia | omega)
theorem nPieces_gt {len w : Nat} (hw : 1 ≤ w) (h0 : 0 < nPieces len w) : (nPieces len w - 1) * w < len := by
  unfold nPieces at h0 ⊢
  have h := Nat.div_add_mod (len + (w - 1)) w
  rw [Nat.mul_comm] at h
  obtain ⟨q, hq⟩ : ∃ q, (len + (w - 1)) / w = q + 1 := ⟨(len + (w - 1)) / w - 1, by (first | lia | omega)⟩
  rw [hq] at h ⊢
  rw [Nat.add_sub_cancel]
  rw [Nat.add_mul, Nat.one_mul] at h
  (first | lia | omega)
def inLines (ks : List Int) (w : Nat) : List Int := if w = 0 then ks else joinL [13, 10] (pieces ks w (nPieces ks.length w))
theorem nPieces_le_len {len w : Nat} (hw : 1 ≤ w) : nPieces len w ≤ len := by
  by_cases h0 : 0 < nPieces len w
  · have h := nPieces_gt hw h0
    have : (nPieces len w - 1) * 1 ≤ (nPieces len w - 1) * w := Nat.mul_le_mul_left _ hw
    (first | lia | omega)
  · (first | lia | omega)
theorem pieces_snoc {ks : List Int} {w i : Nat} {ps : List (Array UInt8)} {b : Array UInt8} (h : ps.map KBw.bInts = pieces ks w i) (hb : KBw.bInts b = (ks.drop (i * w)).take w) : (ps ++ [b]).map KBw.bInts = pieces ks w (i + 1) := by
  unfold pieces at h ⊢
  rw [List.range_succ, List.map_append, List.map_append, h]
  simp [hb]
theorem pieces_sum {ks : List Int} {w : Nat} : ∀ {i : Nat} {ps : List (Array UInt8)}, ps.map KBw.bInts = pieces ks w i → (ps.map (·.size)).sum ≤ i * w := by
  intro i ps h
  have hl : ps.length = i := by
    have := congrArg List.length h
    simpa [pieces] using this
  have hx : ∀ b ∈ ps, b.size ≤ w := fun b hb => by
    have : KBw.bInts b ∈ pieces ks w i := by rw [← h]; exact List.mem_map_of_mem hb
    obtain ⟨j, _, e⟩ := List.mem_map.mp this
    rw [← KBw.ints_length, ← e, List.length_take]; (first | lia | omega)
  rw [← hl]
  clear hl h
  induction ps with
  | nil => simp
  | cons b r ih =>
    have h1 := hx b (.head _)
    have h2 := ih fun b hb => hx b (.tail _ hb)
    rw [List.map_cons, List.sum_cons, List.length_cons, Nat.add_mul]
    (first | lia | omega)
theorem end_ints : KBw.bInts #[13, 10] = [13, 10] := rfl
section
local macro_rules | `(tactic| walk_at "eval ListComp") => `(tactic| walk_at "Z1")
local macro_rules | `(tactic| walk_at "exec Assign cons ListComp") => `(tactic| walk_at "Z2")
local macro_rules | `(tactic| walk_at "exec For Name Name cons nil") => `(tactic| walk_at "Z3")
local macro_rules | `(tactic| walk_at "exec For Name Call cons nil") => `(tactic| walk_at "Z3")
local macro_rules | `(tactic| walk_at "binaryOp BitAnd int int") => `(tactic| (with_reducible first | refine and63 ?_ | refine and255 ?_))
local macro_rules | `(tactic| walk_at "subscriptTail") => `(tactic| walk_at "Z6")
local macro_rules | `(tactic| walk_at "call builtin:len") => `(tactic| walk_at "Z5")
local macro_rules | `(tactic| walk_at "binaryOp Add bytes bytes") => `(tactic| walk_at "Z7")
local macro_rules | `(tactic| walk_at "getMethod bytes") => `(tactic| (with_reducible first | refine meth_join ?_ | refine meth_index ?_ | refine meth_split ?_))
local macro_rules | `(tactic| walk_at "compareOp In int bytes") => `(tactic| (refine in_bytes (by (first | lia | omega)) (by (first | lia | omega)) ?_))
set_option maxHeartbeats 4000000 in
theorem in_lines_spec {w : World} {mean : ExcName → Option Value} {mg mb : Str → Option Value} {dp un : Nat} {gd : Option (List Code)} {fr : Option (List Env)} {s : Shared} {E Q : Value → Shared → Prop}
    {bb : Array UInt8} {tb tw : Tok} {ks : List Int} {n wd : Nat} {w0 : Int}
    (X : (Mine.hd.heap_1_39 w.params).In s.heap) (T : Top Mine.hd.view_1_40 (looseW Mine.hd.view_1_40 [Str.ofString "PostError", Str.ofString "encoded"]) mean mg mb s.heap) (hdp : dp + 10 < recursionLimit) (hun : un + 100 < cLine)
    (hb : KBw.bInts bb = ks) (hn : ks.length = n) (hbs : (bb.size : Int) = n) (h3 : n ≤ 1000) (hw : w0 = wd) (hw2 : wd ≤ 1000)
    (ret : ∀ b t h' tk', (∀ b o, s.heap.get? b = some o → h'.get? b = some o) → KBw.bInts b = inLines ks wd → Q (.bytes b t) { s with heap := h', toks := tk' }) :
    wpAny (model PySem.Challenge.rw_no0352_01.row.prog w) (Ar dp un gd fr) (call (.ref 95) [.bytes bb tb, .int w0 tw]) Q E s := by
  revert X; k_fill; intro X
  refine' enterC2 (binds := [(Str.ofString "line", .bytes bb tb), (Str.ofString "width", .int w0 tw)]) (x1 := Str.ofString "width") (x2 := Str.ofString "line") (c1 := some (.int w0 tw)) (c2 := some (.bytes bb tb)) (lm := fun y => none) X T ?k6 ?k7 ?k8 ?k9 ?kB ?kD ?kc ?kl ?hc1 ?hc2 ?_ ?c2 ?c3 ?c4; (case k6 => k_is); (case k7 => k_is); (case k8 => (simp only [recursionLimit] at *; (first | lia | omega))); (case k9 => exact BindsTo.of_eq rfl); (case kB => exact rfl); (case kD => decide +kernel); (case kc => intro _; rfl); (case kl => intro _; rfl); (case hc1 => intro _; rfl); (case hc2 => intro _; rfl); (case c2 => exact rfl); (case c3 => exact rfl); (case c4 => exact rfl)
  intro L' h' tk' o1 o2 F' N' d1 d2
  try dsimp only
  try k_fold
  (try dsimp only)
  (try k_fold)
  k_steps
  · refine ret _ _ _ _ (Fr.keep (by assumption)) ?_
    rw [hb]; unfold inLines; rw [if_pos (by (first | lia | omega))]
  · rename Fr _ _ _ _ => Fz
    rename News _ _ _ _ => Nz
    rename IsRange _ _ _ _ _ _ _ _ => Rz
    have hw1 : 1 ≤ wd := by (first | lia | omega)
    subst hw
    have hle := nPieces_le (len := n) hw1
    have hll := nPieces_le_len (len := n) hw1
    have hgt : ((nPieces n wd : Nat) - 1 : Int) * wd < n := by
      by_cases h0 : 0 < nPieces n wd
      · have := nPieces_gt hw1 h0
        have e : ((nPieces n wd : Nat) : Int) - 1 = ((nPieces n wd - 1 : Nat) : Int) := by (first | lia | omega)
        rw [e]; exact_mod_cast this
      · have e : ((nPieces n wd : Nat) : Int) - 1 = -1 := by (first | lia | omega)
        rw [e]; (first | lia | omega)
    have hle' : (n : Int) ≤ ((nPieces n wd : Nat) : Int) * wd := by exact_mod_cast hle
    show wpAny _ _ (pyIter _) _ _ _
    refine src_range (n := nPieces n wd) rfl Fz Nz Rz (small_of (by (first | lia | omega)) (by (first | lia | omega)) (by (first | lia | omega)) (by (first | lia | omega))) (size_up (by (first | lia | omega)) (by (first | lia | omega)) (by (first | lia | omega))) (by rw [sizeLine_eq]; (first | lia | omega)) (fun g => ?_)
    refine rest_inv (fun i ys nw => nw = [(L' + 1 + 1, o1), (L' + 1, o2)] ∧ ∃ ps, BytesAre ys ps ∧ ps.map KBw.bInts = pieces ks wd i) ⟨rfl, [], .nil, rfl⟩ ?_ ?_
    · rintro i ys nw v I oI C oC D m₂ hh tk' E' hi ⟨rfl, ps, hys, hps⟩ ⟨t', rfl⟩ hC hx F₂ N₂ off ne
      have hiw : 0 ≤ (i : Int) * wd := Int.mul_nonneg (by (first | lia | omega)) (by (first | lia | omega))
      have hiw2 : (i : Int) * wd ≤ 2000000 := by
        have h1 : i * wd ≤ nPieces n wd * wd := Nat.mul_le_mul_right _ (Nat.le_of_lt hi)
        have h2 : nPieces n wd * wd ≤ 1000 * 1000 := Nat.mul_le_mul (by (first | lia | omega)) hw2
        have h3 : ((i * wd : Nat) : Int) ≤ 1000000 := by (first | lia | omega)
        rw [Int.natCast_mul] at h3
        (first | lia | omega)
      try k_fold
      k_steps
      rename Fr _ _ _ _ => Fy
      rename News _ _ _ _ => Ny
      rename KBw.bInts _ = _ => hy
      have ey : (ks.drop (0 + (i : Int) * wd).toNat).take (0 + (i : Int) * wd + wd - (0 + (i : Int) * wd)).toNat = (ks.drop (i * wd)).take wd := by
        rw [show (0 + (i : Int) * wd).toNat = i * wd by rw [Int.zero_add, ← Int.natCast_mul, Int.toNat_natCast], show (0 + (i : Int) * wd + wd - (0 + (i : Int) * wd)).toNat = wd by (first | lia | omega)]
      rw [ey] at hy
      exact LCg.CompEnd.intro Fy Ny [(L' + 1 + 1, o1), (L' + 1, o2)] (fun _ h => h) off trivial ⟨rfl, _, hys.snoc _ _, pieces_snoc hps hy⟩
    · rintro ys nw ⟨rfl, ps, hys, hps⟩
      intro D hh tk' Fy Ny off
      (try dsimp only)
      (try k_fold)
      k_steps
      rename Fr _ _ _ _ => Fx
      rename News _ _ _ _ => Nx
      have hsum := pieces_sum hps
      have hsum2 : nPieces n wd * wd ≤ 1000 * 1000 := Nat.mul_le_mul (by (first | lia | omega)) hw2
      have hpl : ps.length = nPieces n wd := by
        have := congrArg List.length hps
        simpa [pieces] using this
      have hsz : (#[13, 10] : Array UInt8).size = 2 := rfl
      refine bytes_join (News.isList Nx (.head _)) hys (by rw [hpl, hsz]; (first | lia | omega)) (fun t5 k5 => ?_)
      refine ret _ _ _ _ Fx.keep ?_
      rw [joined_ints, end_ints, hps]
      unfold inLines
      rw [if_neg (by (first | lia | omega)), hn]
end
end Mine
end
theorem Mine.quiet_C95 : True := by w_top off; trivial
local macro_rules | `(tactic| walk_at "Z8") => `(tactic| (with_reducible first | refine meth_join ?_ | refine meth_index ?_ | refine meth_split ?_))
local macro_rules | `(tactic| walk_at "Z9") => `(tactic| (refine in_bytes (by (first | lia | omega)) (by (first | lia | omega)) ?_))
section
set_option maxRecDepth 100000
namespace Mine
section
local macro_rules | `(tactic| walk_at "eval ListComp") => `(tactic| walk_at "Z1")
local macro_rules | `(tactic| walk_at "exec Assign cons ListComp") => `(tactic| walk_at "Z2")
local macro_rules | `(tactic| walk_at "exec For Name Name cons nil") => `(tactic| walk_at "Z3")
local macro_rules | `(tactic| walk_at "exec For Name Call cons nil") => `(tactic| walk_at "Z3")
local macro_rules | `(tactic| walk_at "binaryOp BitAnd int int") => `(tactic| (with_reducible first | refine and63 ?_ | refine and255 ?_))
local macro_rules | `(tactic| walk_at "eval ListComp") => `(tactic| walk_at "Z4")
local macro_rules | `(tactic| walk_at "subscriptTail") => `(tactic| walk_at "Z6")
local macro_rules | `(tactic| walk_at "call builtin:len") => `(tactic| walk_at "Z5")
local macro_rules | `(tactic| walk_at "binaryOp Add bytes bytes") => `(tactic| walk_at "Z7")
local macro_rules | `(tactic| walk_at "getMethod bytes") => `(tactic| walk_at "Z8")
local macro_rules | `(tactic| walk_at "compareOp In int bytes") => `(tactic| walk_at "Z9")
local macro_rules | `(tactic| walk_at "eval Call") => `(tactic| (with_unfolding_all refine Call_ ?_))
/-- the bits of the octets, filled up to whole signs -/
def bits6 (ks : List Int) : List Int := flat2 8 (bitOf 8) ks ++ List.replicate ((-((ks.length * 8 : Nat) : Int)) % 6).toNat 0
theorem bitOf_or (size : Nat) (a : Int) (j : Nat) : bitOf size a j = 0 ∨ bitOf size a j = 1 := by
  unfold bitOf
  have h1 := Int.fmod_nonneg_of_pos (a.fdiv (2 ^ ((size : Int) - 1 - j).toNat)) (show (0 : Int) < 2 by decide)
  have h2 := Int.fmod_lt_of_pos (a.fdiv (2 ^ ((size : Int) - 1 - j).toNat)) (show (0 : Int) < 2 by decide)
  (first | lia | omega)
theorem flat2_or {k size : Nat} {ks : List Int} : ∀ b ∈ flat2 k (bitOf size) ks, b = 0 ∨ b = 1 := by
  intro b hb
  unfold flat2 at hb
  obtain ⟨l, hl, hb⟩ := List.mem_flatten.mp hb
  obtain ⟨a, _, rfl⟩ := List.mem_map.mp hl
  obtain ⟨j, _, rfl⟩ := List.mem_map.mp hb
  exact bitOf_or _ _ _
theorem bits6_or {ks : List Int} : ∀ b ∈ bits6 ks, b = 0 ∨ b = 1 := by
  intro b hb
  rcases List.mem_append.mp hb with hb | hb
  · exact flat2_or b hb
  · exact .inl (List.eq_of_mem_replicate hb)
/-- six bits' number -/
def sexT (bits : List Int) (i j : Nat) : Int := bits.getD (6 * (i : Int) + (0 + (j : Int) * 1)).toNat 0 * 2 ^ (5 - (0 + (j : Int) * 1)).toNat
def sexI (bits : List Int) (i : Nat) : Int := ((List.range 6).map (sexT bits i)).sum
theorem sexI_range {bits : List Int} (hb : ∀ k ∈ bits, k = 0 ∨ k = 1) (i : Nat) : 0 ≤ sexI bits i ∧ sexI bits i < 64 := by
  have h := fun j => bit_or hb (6 * (i : Int) + (0 + (j : Int) * 1)).toNat
  have e : sexI bits i = sexT bits i 0 + (sexT bits i 1 + (sexT bits i 2 + (sexT bits i 3 + (sexT bits i 4 + (sexT bits i 5 + 0))))) := rfl
  rw [e]
  have k0 : ∀ (j : Nat) (c : Int), (2 : Int) ^ (5 - (0 + (j : Int) * 1)).toNat = c → 0 ≤ c → 0 ≤ sexT bits i j ∧ sexT bits i j ≤ c := fun j c hc h0 => by
    unfold sexT
    rw [hc]
    rcases h j with h | h <;> rw [h] <;> (first | lia | omega)
  have a0 := k0 0 32 (by decide) (by decide)
  have a1 := k0 1 16 (by decide) (by decide)
  have a2 := k0 2 8 (by decide) (by decide)
  have a3 := k0 3 4 (by decide) (by decide)
  have a4 := k0 4 2 (by decide) (by decide)
  have a5 := k0 5 1 (by decide) (by decide)
  (first | lia | omega)
theorem bits6_length (ks : List Int) : (bits6 ks).length ≤ 8 * ks.length + 6 := by
  unfold bits6
  rw [List.length_append, flat2_length, List.length_replicate]; (first | lia | omega)
/-- the signs of the law's own row -/
def rowI (ks : List Int) (i : Nat) : Int := SGN.getD (sexI (bits6 ks) i).toNat 0
def rowS (ks : List Int) : List Int := (List.range ((bits6 ks).length / 6)).map (rowI ks)
/-- the law's own row with its pads -/
def row2 (ks : List Int) : List Int := rowS ks ++ List.replicate ((-((rowS ks).length : Int)) % 4).toNat 61
theorem rowS_length (ks : List Int) : (rowS ks).length ≤ 2 * ks.length + 1 := by
  unfold rowS
  rw [List.length_map, List.length_range]
  have := bits6_length ks
  (first | lia | omega)
theorem rowS_in {ks : List Int} : ∀ k ∈ rowS ks, 0 ≤ k ∧ k < 256 := by
  intro k hk
  obtain ⟨i, _, rfl⟩ := List.mem_map.mp hk
  unfold rowI
  rw [List.getD_eq_getElem?_getD]
  cases h : SGN[(sexI (bits6 ks) i).toNat]? with
  | none => exact ⟨by decide, by decide⟩
  | some k => exact sgn_in k (List.mem_of_getElem? h)
set_option maxHeartbeats 8000000 in
theorem lines_spec {w : World} {mean : ExcName → Option Value} {mg mb : Str → Option Value} {dp un : Nat} {gd : Option (List Code)} {fr : Option (List Env)} {s : Shared} {E Q : Value → Shared → Prop}
    {b : Array UInt8} {ks : List Int} {wd : Nat} {w0 : Int} {tb tw : Tok}
    (X : (Mine.hd.heap_1_39 w.params).In s.heap) (T : Top Mine.hd.view_1_40 (looseW Mine.hd.view_1_40 [Str.ofString "PostError", Str.ofString "encoded"]) mean mg mb s.heap) (hdp : dp + 30 < recursionLimit) (hun : un + 300 < cLine)
    (hb : KBw.bInts b = ks) (hl : ks.length ≤ 400) (hw : w0 = wd) (hw2 : wd ≤ 1000)
    (ret : ∀ c t h' tk', (∀ b o, s.heap.get? b = some o → h'.get? b = some o) → KBw.bInts c = inLines (row2 ks) wd → Q (.bytes c t) { s with heap := h', toks := tk' }) :
    wpAny (model PySem.Challenge.rw_no0352_01.row.prog w) (Ar dp un gd fr) (call (.ref 163) [.bytes b tb, .int w0 tw]) Q E s := by
  revert X; k_fill; intro X
  refine' enterC3 (binds := [(Str.ofString "octets", .bytes b tb), (Str.ofString "width", .int w0 tw)]) (x1 := Str.ofString "row") (x2 := Str.ofString "bits") (x3 := Str.ofString "width") (c1 := none) (c2 := none) (c3 := some (.int w0 tw)) (lm := fun y => if y = Str.ofString "octets" then some (.bytes b tb) else none) X T ?k6 ?k7 ?k8 ?k9 ?kB ?kD ?kc ?kl ?hc1 ?hc2 ?hc3 ?_ ?c2 ?c3 ?c4; (case k6 => k_is); (case k7 => k_is); (case k8 => (simp only [recursionLimit] at *; (first | lia | omega))); (case k9 => exact BindsTo.of_eq rfl); (case kB => exact rfl); (case kD => decide +kernel); (case kc => intro _; rfl); (case kl => intro _; rfl); (case hc1 => intro _; rfl); (case hc2 => intro _; rfl); (case hc3 => intro _; rfl); (case c2 => exact rfl); (case c3 => exact rfl); (case c4 => exact rfl)
  intro L' h' tk' o1 o2 o3 F' N' d1 d2 d3
  try dsimp only
  try k_fold
  k_steps
  rename Fr _ _ _ _ => Fc
  rename News _ _ _ _ => Nc
  refine' bits8_spec (Frag.In.keeps X Fc.keep) (T.keeps Fc.keep) ?hdp ?hun hb (by (first | lia | omega)) ?b8
  case hdp => simp only [recursionLimit] at *; (first | lia | omega)
  case hun => (have := cLine_is; show un + 3 + _ < _; (first | lia | omega))
  case b8 =>
  intro D ys hh1 tk1 hk1 hD hg hys
  have Fd := Fc.keeps hk1
  have Nd := news_more Fc Nc hk1 hD hg
  have hne0 : D ≠ L' + 1 + 2 := ne_new Nc (.head _) hD
  have hne1 : D ≠ L' + 1 + 1 := ne_new Nc (.tail _ (.head _)) hD
  have hne2 : D ≠ L' + 1 := ne_new Nc (.tail _ (.tail _ (.head _))) hD
  clear Fc Nc
  have hyl := hys.length
  rw [flat2_length] at hyl
  have hyf : ys.length ≤ 1099511627776 := by (first | lia | omega)
  (try dsimp only)
  (try k_fold)
  k_steps
  rename News _ _ _ _ => Nz
  refine call_len_list (News.isList Nz (.tail _ (.head _))) (by rw [List.size_toArray]; (first | lia | omega)) ?_
  have hsz : (ys.toArray.size : Int) = ((ks.length * 8 : Nat) : Int) := by rw [List.size_toArray, hyl]
  rw [hsz]
  k_steps
  rename_i o4 d4 l4 h4 F4 l14 D1 h1 F1 N1 i1 n1 _ _ _ _ _ h2 F2 N2
  have hz1 : h1.objs.size ≠ L' + 1 + 1 := Nat.ne_of_gt (Heap.lt_size (N1 _ (.tail _ (.tail _ (.tail _ (.tail _ (.head _)))))).1)
  have hz0 : h1.objs.size ≠ L' + 1 + 2 := Nat.ne_of_gt (Heap.lt_size (N1 _ (.tail _ (.tail _ (.tail _ (.head _))))).1)
  have hz2 : h1.objs.size ≠ L' + 1 := Nat.ne_of_gt (Heap.lt_size (N1 _ (.tail _ (.tail _ (.tail _ (.tail _ (.tail _ (.head _))))))).1)
  have e6 : ((-((ks.length * 8 : Nat) : Int)).fmod 6) = (-((ks.length * 8 : Nat) : Int)) % 6 := Int.fmod_eq_emod_of_nonneg _ (by decide)
  have hbits := IntsAre.append hys i1
  have N3 : News s.heap L' h2 [(h1.objs.size, listOf (ys ++ (List.replicate ((-((ks.length * 8 : Nat) : Int)).fmod 6).toNat [Value.int 0 tk]).flatten).toArray 0), (L' + 1 + 2, o1), (L' + 1 + 1, o4), (L' + 1, o3)] := fun p hp => N2 p (by
    rcases List.mem_cons.mp hp with h | hp
    · exact h ▸ .head _
    · exact .tail _ (.tail _ (.tail _ (.tail _ hp))))
  rw [rep_one, rep_one, e6] at hbits
  rw [e6] at N3
  have hbits6 : IntsAre _ (bits6 ks) := hbits
  rw [rep_one] at N3
  generalize hv6 : ys ++ List.replicate ((-((ks.length * 8 : Nat) : Int)) % 6).toNat (Value.int 0 tk) = vs6 at N3 hbits6
  have hl6 := hbits6.length
  have hl6' : (bits6 ks).length ≤ 8 * ks.length + 6 := by
    unfold bits6
    rw [List.length_append, flat2_length, List.length_replicate]; (first | lia | omega)
  have hl6f : vs6.length ≤ 1099511627776 := by (first | lia | omega)
  clear hbits i1 N2 N1 F1 F4
  generalize hD2 : h1.objs.size = D2 at N3 hz0 hz1 hz2
  refine stCN (own := [(D2, _), (L' + 1 + 2, o1)]) (rest := [(L' + 1, o3)]) F2 N3 rfl d4 (apart_cons hz1 (apart_cons (Nat.ne_of_gt (Nat.lt_succ_self (L' + 1 + 1))) apart_nil)) (apart_cons (Nat.ne_of_lt (Nat.lt_succ_self (L' + 1))) apart_nil) (fun h5 o5 F5 N5 d5 => ?_)
  simp only [List.cons_append, List.nil_append] at N5
  clear F2 N3 d4 hD2
  (try dsimp only)
  (try k_fold)
  k_steps
  rename Fr _ _ _ _ => F7
  rename News _ _ _ _ => N7
  rename IsRange _ _ _ _ _ _ _ _ => R7
  have e9 : (((bits6 ks).length : Int)).fdiv 6 = (((bits6 ks).length / 6 : Nat) : Int) := by rw [Int.fdiv_eq_ediv_of_nonneg _ (by decide)]; (first | lia | omega)
  rw [e9] at R7
  have hbb := bits6_or (ks := ks)
  have hsg := sgn_ints
  have hsgl := sgn_length
  show wpAny _ _ (pyIter _) _ _ _
  refine srcC_range (n := (bits6 ks).length / 6) (f := rowI ks) F7 N7 R7 (by (first | lia | omega)) (fun g' => ?_) ?_
  · clear F7 N7 R7
    intro i t zs I oI cc oc C oC D9 h tk hi hoc F₂ N₂
    (try k_fold)
    k_steps
    rename Fr _ _ _ _ => F3
    rename News _ _ _ _ => N3
    rename IsRange _ _ _ _ _ _ _ _ => R3
    show wpAny _ _ (pyIter _) _ _ _
    refine src_range (n := 6) rfl F3 N3 R3 (by decide) (by decide) (by rw [sizeLine_eq]; (first | lia | omega)) (fun g2 => ?_)
    refine rest_inv (fun j ws nw => nw = [(I, oI), (cc, oc), (C, oC), (D9, LCg.lst zs), (D2, listOf vs6.toArray 0), (L' + 1 + 2, o1), (L' + 1 + 1, o5), (L' + 1, o3)] ∧ IntsAre ws ((List.range j).map (sexT (bits6 ks) i))) ⟨rfl, .nil⟩ ?_ ?_
    · clear F3 N3 R3
      rintro j ws nw v I2 oI2 C2 oC2 D3 m₂ hh tk2 E' hj ⟨rfl, hws⟩ ⟨tv, rfl⟩ hC2 hx2 F₄ N₄ off ne
      (try k_fold)
      k_steps
      refine mul_int (hm := bit_fits hbb _ _) ?_
      rename Fr _ _ _ _ => Fy
      rename News _ _ _ _ => Ny
      exact LCg.CompEnd.intro Fy Ny [(I, oI), (cc, oc), (C, oC), (D9, LCg.lst zs), (D2, listOf vs6.toArray 0), (L' + 1 + 2, o1), (L' + 1 + 1, o5), (L' + 1, o3)] (fun _ h => h) off trivial ⟨rfl, ints_snoc hws⟩
    · clear F3 N3 R3
      rintro ws nw ⟨rfl, hws⟩
      have hsx := sexI_range hbb i
      unfold sexI at hsx
      have hsx1 := hsx.1
      have hsx2 := hsx.2
      clear hsx
      intro D3 hh tk2 F₄ N₄ off
      (try dsimp only)
      (try k_fold)
      k_steps
      all_goals (rename Fr _ _ _ _ => Fz; rename News _ _ _ _ => Nz; first | exact Fz | exact Nz | exact fun p hp => Nz p (.tail _ hp))
  · clear F7 N7 R7
    intro D9 zs h tk F₂ N₂ hzs
    (try dsimp only)
    (try k_fold)
    k_steps
    rename Fr _ _ _ _ => Fx
    rename News _ _ _ _ => Nx
    have hrl := rowS_length ks
    refine KBa.make_K Fx Nx rfl (News.isList Nx (.head _)) (show IntsAre zs (rowS ks) from hzs) rowS_in (by (first | lia | omega)) (fun h6 t6 k6 F6 N6 hI => ?_)
    have hb6 := KBa.ints_make hI
    have hz6 : (((rowS ks).map fun k => UInt8.ofNat k.toNat).toArray.size : Int) = ((rowS ks).length : Nat) := by simp
    (try dsimp only)
    (try k_fold)
    k_steps
    have e4 : ((-((rowS ks).length : Int)).fmod 4) = (-((rowS ks).length : Int)) % 4 := Int.fmod_eq_emod_of_nonneg _ (by decide)
    rw [e4]
    have hm4 : 0 ≤ (-((rowS ks).length : Int)) % 4 ∧ (-((rowS ks).length : Int)) % 4 < 4 := by (first | lia | omega)
    refine bytes_mul_any (b := [61]) (by decide) (by (first | lia | omega)) (by (first | lia | omega)) (by decide) (fun t7 k7 => ?_)
    have hpad : KBw.bInts ((List.replicate ((-((rowS ks).length : Int)) % 4).toNat [(61 : UInt8)]).flatten).toArray = List.replicate ((-((rowS ks).length : Int)) % 4).toNat 61 := by
      rw [rep_one]; unfold KBw.bInts; simp
    have hpl : (List.replicate ((-((rowS ks).length : Int)) % 4).toNat (61 : Int)).length ≤ 4 := by rw [List.length_replicate]; (first | lia | omega)
    k_steps
    · rename Fr _ _ _ _ => Fx
      rename KBw.bInts (byteArr _ ++ _) = _ => hB
      refine ret _ _ _ _ Fx.keep ?_
      rw [hB]
      unfold inLines
      rw [if_pos (by (first | lia | omega))]
      rfl
    · rename Fr _ _ _ _ => Fz
      rename News _ _ _ _ => Nz
      rename IsRange _ _ _ _ _ _ _ _ => Rz
      rename KBw.bInts (byteArr _ ++ _) = _ => hB
      replace hB : KBw.bInts _ = row2 ks := hB
      have hN : (rowS ks).length + (List.replicate ((-((rowS ks).length : Int)) % 4).toNat (61 : Int)).length = (row2 ks).length := by unfold row2; rw [List.length_append]
      rw [hN] at Rz
      have hN2 : (row2 ks).length ≤ 900 := by (first | lia | omega)
      clear hN hrl
      obtain ⟨n, hn⟩ : ∃ n, (row2 ks).length = n := ⟨_, rfl⟩
      rw [hn] at Rz hN2
      simp only [List.cons_append, List.nil_append] at Nz
      have hw1 : 1 ≤ wd := by (first | lia | omega)
      subst hw
      have hle := nPieces_le (len := n) hw1
      have hll := nPieces_le_len (len := n) hw1
      have hgt : ((nPieces n wd : Nat) - 1 : Int) * wd < n := by
        by_cases h0 : 0 < nPieces n wd
        · have := nPieces_gt hw1 h0
          have e : ((nPieces n wd : Nat) : Int) - 1 = ((nPieces n wd - 1 : Nat) : Int) := by (first | lia | omega)
          rw [e]; exact_mod_cast this
        · have e : ((nPieces n wd : Nat) : Int) - 1 = -1 := by (first | lia | omega)
          rw [e]; (first | lia | omega)
      have hle' : (n : Int) ≤ ((nPieces n wd : Nat) : Int) * wd := by exact_mod_cast hle
      show wpAny _ _ (pyIter _) _ _ _
      refine src_range (n := nPieces n wd) rfl Fz Nz Rz (small_of (by (first | lia | omega)) (by (first | lia | omega)) (by (first | lia | omega)) (by (first | lia | omega))) (size_up (by (first | lia | omega)) (by (first | lia | omega)) (by (first | lia | omega))) (by rw [sizeLine_eq]; (first | lia | omega)) (fun g => ?_)
      refine rest_inv (fun i ys nw => nw = [(D9, LCg.lst zs), (D2, listOf vs6.toArray 0), (L' + 1 + 2, _), (L' + 1 + 1, o5), (L' + 1, o3)] ∧ ∃ ps, BytesAre ys ps ∧ ps.map KBw.bInts = pieces (row2 ks) wd i) ⟨rfl, [], .nil, rfl⟩ ?_ ?_
      · clear Fz Nz Rz
        rintro i ys nw v I oI C oC D m₂ hh tk' E' hi ⟨rfl, ps, hys, hps⟩ ⟨t', rfl⟩ hC hx F₂ N₂ off ne
        have hiw : 0 ≤ (i : Int) * wd := Int.mul_nonneg (by (first | lia | omega)) (by (first | lia | omega))
        have hiw2 : (i : Int) * wd ≤ 2000000 := by
          have h1 : i * wd ≤ nPieces n wd * wd := Nat.mul_le_mul_right _ (Nat.le_of_lt hi)
          have h2 : nPieces n wd * wd ≤ 1000 * 1000 := Nat.mul_le_mul (by (first | lia | omega)) hw2
          have h3 : ((i * wd : Nat) : Int) ≤ 1000000 := by (first | lia | omega)
          rw [Int.natCast_mul] at h3
          (first | lia | omega)
        (try k_fold)
        k_steps
        rename Fr _ _ _ _ => Fy
        rename News _ _ _ _ => Ny
        rename KBw.bInts _ = _ => hy
        have ey : ((row2 ks).drop (0 + (i : Int) * wd).toNat).take (0 + (i : Int) * wd + wd - (0 + (i : Int) * wd)).toNat = ((row2 ks).drop (i * wd)).take wd := by
          rw [show (0 + (i : Int) * wd).toNat = i * wd by rw [Int.zero_add, ← Int.natCast_mul, Int.toNat_natCast], show (0 + (i : Int) * wd + wd - (0 + (i : Int) * wd)).toNat = wd by (first | lia | omega)]
        rw [ey] at hy
        exact LCg.CompEnd.intro Fy Ny [(D9, LCg.lst zs), (D2, listOf vs6.toArray 0), (L' + 1 + 2, _), (L' + 1 + 1, o5), (L' + 1, o3)] (fun _ h => h) off trivial ⟨rfl, _, hys.snoc _ _, pieces_snoc hps hy⟩
      · clear Fz Nz Rz
        rintro ys nw ⟨rfl, ps, hys, hps⟩
        intro D hh tk' Fy Ny off
        (try dsimp only)
        (try k_fold)
        k_steps
        rename Fr _ _ _ _ => Fx
        rename News _ _ _ _ => Nx
        have hsum := pieces_sum hps
        have hsum2 : nPieces n wd * wd ≤ 1000 * 1000 := Nat.mul_le_mul (by (first | lia | omega)) hw2
        have hpl : ps.length = nPieces n wd := by
          have := congrArg List.length hps
          simpa [pieces] using this
        have hsz : (#[13, 10] : Array UInt8).size = 2 := rfl
        refine bytes_join (News.isList Nx (.head _)) hys (by rw [hpl, hsz]; (first | lia | omega)) (fun t5 k5 => ?_)
        refine ret _ _ _ _ Fx.keep ?_
        rw [joined_ints, end_ints, hps]
        unfold inLines
        rw [if_neg (by (first | lia | omega)), hn]
end
end Mine
end
theorem Mine.quiet_C163 : True := by w_top off; trivial
section
open PySem.Spec LCg
open Sem (wp)
set_option maxRecDepth 100000
namespace Mine
section
variable {prog : Program} {w : World} {A : Around} {E : Value → Shared → Prop} {s : Shared} {h₀ : Heap} {L : Addr} {m : Str → Option Value} {env : Env}
  {elt iter c : Expr} {x : Str} {px : Pos} {scope : Scope} {cl : List (Str × Addr)} {ks : List Int} {p : Int → Bool} {f : Int → Int}
/-- the test of such a comprehension -/
def TurnIT (prog : Program) (w : World) (A : Around) (h₀ : Heap) (L : Addr) (m : Str → Option Value) (env : Env) (c : Expr) (x : Str) (scope : Scope) (cl : List (Str × Addr)) (ks : List Int) (p : Int → Bool) (news : List (Addr × Obj)) (s₂ : Shared) : Prop :=
  ∀ k t ys I oI C oC D m₂ h tk, k ∈ ks → NsObj oC m₂ → m₂ x = some (.int k t) → Fr h₀ L h m → News h₀ L h ((I, oI) :: (C, oC) :: (D, lst ys) :: news) →
    wpAny (model prog w) A (isTrue c (compEnvC scope cl C env) (eval c (compEnvC scope cl C env))) (fun ok s' => ∃ h' tk', ok = p k ∧ s' = { s₂ with heap := h', toks := tk' } ∧ Fr h₀ L h' m ∧ News h₀ L h' ((I, oI) :: (C, oC) :: (D, lst ys) :: news)) (fun _ _ => False) { s₂ with heap := h, toks := tk }
/-- its element -/
def TurnIE (prog : Program) (w : World) (A : Around) (h₀ : Heap) (L : Addr) (m : Str → Option Value) (env : Env) (elt : Expr) (x : Str) (scope : Scope) (cl : List (Str × Addr)) (ks : List Int) (p : Int → Bool) (f : Int → Int) (news : List (Addr × Obj)) (s₂ : Shared) : Prop :=
  ∀ k t ys I oI C oC D m₂ h tk, k ∈ ks → p k = true → NsObj oC m₂ → m₂ x = some (.int k t) → Fr h₀ L h m → News h₀ L h ((I, oI) :: (C, oC) :: (D, lst ys) :: news) →
    wpAny (model prog w) A (eval elt (compEnvC scope cl C env)) (fun val s' => ∃ t' h' tk', val = .int (f k) t' ∧ s' = { s₂ with heap := h', toks := tk' } ∧ Fr h₀ L h' m ∧ News h₀ L h' ((I, oI) :: (C, oC) :: (D, lst ys) :: news)) (fun _ _ => False) { s₂ with heap := h, toks := tk }
theorem block_I {pos : Pos} {s₂ : Shared} {I : Addr} {fp : List Addr} {P : Nat → Value → Prop} {St : Nat → Heap → Prop} {S : List (Addr × Obj) → Prop} {news : List (Addr × Obj)}
    {RR : Value → Addr → Result → Shared → Prop}
    (W : Walks prog w A I fp [I] ks.length P St) (hsz : ks.length ≤ 1000000) (hIo : ∀ i h, St i h → ∃ o, h.get? I = some o)
    (hSt : ∀ i h h' o nw, St i h → h.get? I = some o → h'.get? I = some o → (∀ b o, h₀.get? b = some o → h'.get? b = some o) → News h₀ L h' nw → S nw → St i h')
    (hcell : ∀ z ∈ scope.names, z.2 ≠ .cell) (hkind : scope.kind = .function) (hx : scope.names.lookup x = some .local) (hst : St 0 s₂.heap) (hfp : ∀ b ∈ fp, b < s₂.heap.objs.size)
    (hP : ∀ i v, P i v → ∃ t kv, ks[i]? = some kv ∧ v = .int kv t)
    (F : Fr h₀ L s₂.heap m) (N : News h₀ L s₂.heap news) (hIL : L ≠ I) (hI₀ : h₀.get? I = none) (off : ∀ p ∈ news, p.1 ≠ I) (hS : S news)
    (tst : TurnIT prog w A h₀ L m env c x scope cl ks p news s₂) (elm : TurnIE prog w A h₀ L m env elt x scope cl ks p f news s₂)
    (hRR : ∀ D C h tk m' ys, Fr h₀ L h m → News h₀ L h ((D, lst ys) :: news) → Off1 D news → h.Ns C m' → h₀.get? C = none → h₀.get? D = none → C ≠ L → D ≠ L → C ≠ D → (∀ p ∈ news, p.1 ≠ C) → IntsAre ys ((ks.filter p).map f) → RR (.ref D) C (.ok .next) { s₂ with heap := h, toks := tk }) :
    wpAny (model prog w) A (newList []) (fun acc s₃ => wpAny (model prog w) A (newFunctionEnv scope env.globals cl [] env.qual none .none (some env)) (fun cenv s₄ =>
      codeAny (model prog w) A (.compStart (.ListComp elt [⟨.Name x px, iter, [c], 0⟩] scope pos) 0 (.ref I) acc { cenv with scope := relabel scope env }) (RR acc cenv.locals) s₄) E s₃) E s₂ := by
  refine wpAny_newObj_type (wpAny_newFunctionEnv hcell (by intro y hy; simp at hy) (fun h₁ hns₁ hsb₁ => ?_) hkind)
  dsimp only at hns₁ hsb₁ ⊢
  generalize hH2 : s₂.heap.push { cls := .type "list", dict := none, data := .seq ([] : List Value).toArray } = H2 at hns₁ hsb₁ ⊢
  have hC : H2.objs.size = s₂.heap.objs.size + 1 := by rw [← hH2, Heap.size_push]
  have hDC : s₂.heap.objs.size ≠ H2.objs.size := by rw [hC]; exact Nat.ne_of_lt (Nat.lt_succ_self _)
  have below : ∀ b, b < s₂.heap.objs.size → b ≠ H2.objs.size ∧ b ≠ s₂.heap.objs.size := fun b hb => ⟨by rw [hC]; exact Nat.ne_of_lt (Nat.lt_succ_of_lt hb), Nat.ne_of_lt hb⟩
  have hDf : s₂.heap.objs.size ∉ fp := fun hm => Nat.lt_irrefl _ (hfp _ hm)
  have hCf : H2.objs.size ∉ fp := fun hm => by have := hfp _ hm; rw [hC] at this; exact Nat.lt_irrefl _ (Nat.lt_of_succ_lt this)
  have hIf : I ∈ fp := W.sub I (List.mem_singleton.mpr rfl)
  have hIlt : I < s₂.heap.objs.size := hfp I hIf
  have old : ∀ b o, s₂.heap.get? b = some o → h₁.get? b = some o := fun b o e => hsb₁.extBut b o (below b (Heap.lt_size e)).1 (Heap.get?_push_of_some _ (hH2 ▸ Heap.get?_push_of_some _ e))
  have hacc : h₁.get? s₂.heap.objs.size = some (lst []) := hsb₁.extBut _ _ hDC (Heap.get?_push_of_some _ (hH2 ▸ Heap.get?_push_size _ rfl))
  have hst₁ : St 0 h₁ := W.frame _ _ _ hst fun b _ o e => old b o e
  have fresh : ∀ a, s₂.heap.objs.size ≤ a → s₂.heap.get? a = none := fun a ha => by
    cases e : s₂.heap.get? a with
    | none => rfl
    | some o' => exact absurd (Heap.lt_size e) (Nat.not_lt.mpr ha)
  have fresh₀ : ∀ a, s₂.heap.objs.size ≤ a → h₀.get? a = none := fun a ha => by
    cases e : h₀.get? a with
    | none => rfl
    | some o' => have := F.keep a o' e; rw [fresh a ha] at this; cases this
  have hD₀ : h₀.get? s₂.heap.objs.size = none := fresh₀ _ (Nat.le_refl _)
  have hC₀ : h₀.get? H2.objs.size = none := fresh₀ _ (by rw [hC]; exact Nat.le_succ _)
  have hLlt : L < s₂.heap.objs.size := F.ns.lt
  have hDL : s₂.heap.objs.size ≠ L := Ne.symm (below L hLlt).2
  have hCL : H2.objs.size ≠ L := Ne.symm (below L hLlt).1
  have hCI : I ≠ H2.objs.size := (below I hIlt).1
  have hDI : I ≠ s₂.heap.objs.size := (below I hIlt).2
  have offC : ∀ p ∈ news, p.1 ≠ H2.objs.size := fun p hp => (below _ (Heap.lt_size (N p hp).1)).1
  have offD : ∀ p ∈ news, p.1 ≠ s₂.heap.objs.size := fun p hp => (below _ (Heap.lt_size (N p hp).1)).2
  have off1 : Off1 s₂.heap.objs.size news := Off3.one (I := I) (C := H2.objs.size) (Off3.of fun p hp => ⟨off p hp, offC p hp, offD p hp⟩)
  have loop : ∀ s₃ : Shared, s₃ = { s₂ with heap := h₁, toks := s₂.toks + ([] : List (Str × Value)).length } →
      codeAny (model prog w) A (.compLoop (.ListComp elt [⟨.Name x px, iter, [c], 0⟩] scope pos) 0 (.ref I) (.ref s₂.heap.objs.size) (compEnvC scope cl H2.objs.size env))
        (RR (.ref s₂.heap.objs.size) H2.objs.size) s₃ := by
    rintro s₃ rfl
    refine codeAny_compLoop_tests
      (fun k s' => ∃ h' tk i ys m', s' = { s₂ with heap := h', toks := tk } ∧ i ≤ ks.length ∧ k = ks.length + 1 - i ∧ IntsAre ys (((ks.take i).filter p).map f) ∧ St i h' ∧ Fr h₀ L h' m ∧ h'.Ns H2.objs.size m' ∧ News h₀ L h' ((s₂.heap.objs.size, lst ys) :: news)) ?_ (ks.length + 1)
      ⟨h₁, _, 0, [], _, rfl, Nat.zero_le _, rfl, .nil, hst₁, F.keeps old, hns₁, fun p hp => ?_⟩
    · rintro n s' ⟨h', tk, i, ys, m', rfl, hi, rfl, hys, hst', F', hn', N'⟩
      by_cases hlt : i < ks.length
      · refine W.item i _ _ _ hlt hst' fun v h₂ tk₂ hPv hst₂ hk₂ => ?_
        obtain ⟨tv, kv, hkv, rfl⟩ := hP i v hPv
        refine wpAny_assign_Name (wpAny_storeName_local (lookup_relabel_local hx) (hn'.at' fun o e => hk₂ _ o (by simpa using Ne.symm hCI) e) (fun h₃ hn₃ hs₃ => ?_) (by simp [compEnvC, relabel, hkind]))
        have hst₃ : St (i + 1) h₃ := W.frame _ _ _ hst₂ fun b hb o e => hs₃.extBut b o (fun q => hCf (by have q' : b = H2.objs.size := q; rw [← q']; exact hb)) e
        obtain ⟨oI, heI⟩ := hIo _ _ hst₃
        obtain ⟨oC, heC, hoC⟩ := ns_obj hn₃
        have F₃ : Fr h₀ L h₃ m := (fr_but F' hk₂ hIL hI₀).change hs₃ hCL hC₀
        have N₂ : News h₀ L h₂ ((s₂.heap.objs.size, lst ys) :: news) := news_but N' hk₂ fun p hp => by
          rcases List.mem_cons.mp hp with rfl | hp
          · exact Ne.symm hDI
          · exact off p hp
        have N₃ : News h₀ L h₃ ((I, oI) :: (H2.objs.size, oC) :: (s₂.heap.objs.size, lst ys) :: news) := fun p hp => by
          rcases List.mem_cons.mp hp with rfl | hp
          · exact ⟨heI, Ne.symm hIL, hI₀⟩
          · rcases List.mem_cons.mp hp with rfl | hp
            · exact ⟨heC, hCL, hC₀⟩
            · have z := N₂ p hp
              refine ⟨hs₃.extBut _ _ ?_ z.1, z.2⟩
              rcases List.mem_cons.mp hp with rfl | hp
              · exact hDC
              · exact offC p hp
        have hkm : kv ∈ ks := List.mem_of_getElem? hkv
        refine wpAny_tests_one (wpAny_mono (tst kv tv ys I oI H2.objs.size oC s₂.heap.objs.size _ h₃ _ hkm hoC (by simp) F₃ N₃) (fun ok s₄ h₄ => ?_) fun _ _ z => z.elim)
        obtain ⟨h₄, tk₄, rfl, rfl, F₄, N₄⟩ := h₄
        have back : ∀ {h : Heap}, News h₀ L h ((I, oI) :: (H2.objs.size, oC) :: (s₂.heap.objs.size, lst ys) :: news) → Fr h₀ L h m → St (i + 1) h := fun Nh Fh => hSt _ _ _ _ _ hst₃ heI (Nh _ (.head _)).1 Fh.keep (fun p hp => Nh p (.tail _ (.tail _ (.tail _ hp)))) hS
        cases hpk : p kv with
        | false =>
          rw [if_neg (by decide)]
          refine ⟨ks.length + 1 - (i + 1), by (first | lia | omega), h₄, tk₄, i + 1, ys, _, rfl, hlt, rfl, ?_, back N₄ F₄, F₄, hoC.ns (N₄ _ (.tail _ (.head _))).1, fun p hp => N₄ p (.tail _ (.tail _ hp))⟩
          rw [take_succ_filter p ks i kv hkv, hpk]
          simpa using hys
        | true =>
          rw [if_pos rfl]
          refine wpAny_mono (elm kv tv ys I oI H2.objs.size oC s₂.heap.objs.size _ h₄ _ hkm hpk hoC (by simp) F₄ N₄) (fun y s₅ h₅ => ?_) fun _ _ z => z.elim
          obtain ⟨t', h₅, tk₅, rfl, rfl, F₅, N₅⟩ := h₅
          have zD := (N₅ _ (.tail _ (.tail _ (.head _)))).1
          have hyl := hys.length
          rw [List.length_map] at hyl
          have hfl := List.length_filter_le p (ks.take i)
          rw [List.length_take] at hfl
          refine append_at (hsz := by show ys.toArray.size ≤ sizeLine; rw [List.size_toArray, sizeLine_eq]; (first | lia | omega)) zD fun h₆ hs₆ hD₆ => ?_
          refine ⟨ks.length + 1 - (i + 1), by (first | lia | omega), h₆, tk₅, i + 1, ys ++ [.int (f kv) t'], _, rfl, hlt, rfl, ?_, ?_, F₅.change hs₆ hDL hD₀, (hoC.ns (N₅ _ (.tail _ (.head _))).1).sameBut hs₆ (Ne.symm hDC), fun p hp => ?_⟩
          · rw [take_succ_filter p ks i kv hkv, hpk, if_pos rfl, List.map_append]
            exact IntsAre.append hys (.cons _ _ .nil)
          · exact W.frame _ _ _ (back N₅ F₅) fun b hb o e => hs₆.extBut b o (fun q => hDf (q ▸ hb)) e
          · rcases List.mem_cons.mp hp with rfl | hp
            · exact ⟨hD₆.trans (congrArg some (lst_snoc ys _)), hDL, hD₀⟩
            · have z := N₅ _ (.tail _ (.tail _ (.tail _ hp)))
              exact ⟨hs₆.extBut _ _ (offD p hp) z.1, z.2⟩
      · obtain rfl : i = ks.length := Nat.le_antisymm hi (Nat.not_lt.mp hlt)
        refine W.done _ _ _ hst' fun h₂ tk₂ hk₂ => ?_
        rw [List.take_of_length_le (Nat.le_refl _)] at hys
        exact hRR _ _ h₂ tk₂ _ ys (fr_but F' hk₂ hIL hI₀) (news_but N' hk₂ fun p hp => by
          rcases List.mem_cons.mp hp with rfl | hp
          · exact Ne.symm hDI
          · exact off p hp) off1 (hn'.at' fun o e => hk₂ _ o (by simpa using Ne.symm hCI) e) hC₀ hD₀ hCL hDL (Ne.symm hDC) offC hys
    · rcases List.mem_cons.mp hp with rfl | hp
      · exact ⟨hacc, hDL, hD₀⟩
      · exact ⟨old _ _ (N p hp).1, (N p hp).2⟩
  exact codeAny_compStart_list (loop _ rfl) (W.self 0 _ _ _ hst₁ (loop _ rfl))
/-- where the iterator stands -/
inductive SrcI (prog : Program) (w : World) (A : Around) (h₀ : Heap) (L : Addr) (m : Str → Option Value) (env : Env) (elt c : Expr) (x : Str) (scope : Scope) (cl : List (Str × Addr)) (Q : Shared → Addr → List Value → Heap → Nat → List (Addr × Obj) → Prop) (it : Value) (s₂ : Shared) : Prop
  | mk (ks : List Int) (p : Int → Bool) (f : Int → Int) (I : Addr) (fp : List Addr) (P : Nat → Value → Prop) (St : Nat → Heap → Prop) (S : List (Addr × Obj) → Prop) (news : List (Addr × Obj)) :
    it = .ref I →
    Walks prog w A I fp [I] ks.length P St →
    ks.length ≤ 1000000 →
    (∀ i h, St i h → ∃ o, h.get? I = some o) →
    (∀ i h h' o nw, St i h → h.get? I = some o → h'.get? I = some o → (∀ b o, h₀.get? b = some o → h'.get? b = some o) → News h₀ L h' nw → S nw → St i h') →
    St 0 s₂.heap →
    (∀ b ∈ fp, b < s₂.heap.objs.size) →
    (∀ i v, P i v → ∃ t kv, ks[i]? = some kv ∧ v = .int kv t) →
    Fr h₀ L s₂.heap m →
    News h₀ L s₂.heap news →
    L ≠ I →
    h₀.get? I = none →
    (∀ p ∈ news, p.1 ≠ I) →
    S news →
    TurnIT prog w A h₀ L m env c x scope cl ks p news s₂ →
    TurnIE prog w A h₀ L m env elt x scope cl ks p f news s₂ →
    (∀ D ys h tk, IntsAre ys ((ks.filter p).map f) → Q s₂ D ys h tk news) → SrcI prog w A h₀ L m env elt c x scope cl Q it s₂
theorem Assign_ListComp_I {y : Str} {py : Pos} {pos spos : Pos} {Q : Flow → Shared → Prop} (F₀ : Fr h₀ L s.heap m) (hLe : env.locals = L)
    (hsw : swapsWith (.ListComp elt [⟨.Name x px, iter, [c], 0⟩] scope pos) (some (.Name y py)) spos.line env = pure true)
    (hclos : closureFor scope env = pure cl) (hcell : ∀ z ∈ scope.names, z.2 ≠ .cell) (hkind : scope.kind = .function)
    (hnames : ∀ z ∈ scope.names, z.2 = .local → scope.names.lookup z.1 = some .local) (hx : scope.names.lookup x = some .local)
    (hy : env.kindOf y = some .local) (hp : (env.scope.kind == .class || (env.scope.kind == .module && env.locals != env.globals)) = false)
    (h : wpAny (model prog w) A (eval iter env) (fun xv s₁ => Hold (wpAny (model prog w) A (pyIter xv) (SrcI prog w A h₀ L m env elt c x scope cl (fun s₂ D ys h tk news => Fr h₀ L h (fun z => if z = y then some (.ref D) else m z) → News h₀ L h ((D, lst ys) :: news) → Q .next { s₂ with heap := h, toks := tk })) E s₁)) E s)
    (hs : ∀ x, foldedSetIterable iter env x = pure x) :
    wpAny (model prog w) A (exec (.Assign [.Name y py] (.ListComp elt [⟨.Name x px, iter, [c], 0⟩] scope pos) spos) env) Q E s := by
  subst hLe
  rw [exec_Assign_Name_used _ _ _ _ hsw]
  refine wpAny_bind (wpAny_standAt (wpAny_bind ?_))
  show wpAny _ _ (do let _ ← comprehension (.ListComp elt [⟨.Name x px, iter, [c], 0⟩] scope pos) scope env _ (newList []) false (eval iter env) (some (assign (.Name y py) env))) _ _ s
  refine wpAny_bind (wpAny_mono (wpAny_comprehension_free (use := some (assign (.Name y py) env)) (Q := fun _ s' => Q .next s') rfl hs hclos hkind hnames
    (wpAny_mono h (fun xv s₁ h₁ => wpAny_mono h₁ (fun it s₂ h₂ => ?_) fun _ _ e => e) fun _ _ e => e)) (fun _ s' hq => wpAny_pure (wpAny_pure hq)) fun _ _ e => e)
  obtain ⟨ks, p, f, I, fp, P, St, S, news, rfl, W, hsz, hIo, hSt, hst, hfp, hP, F, N, hIL, hI0, off, hS, tst, elm, fin⟩ := h₂
  refine block_I (RR := fun acc C => compPost (model prog w) A E (some (assign (.Name y py) env)) (fun _ s' => Q .next s') acc C) W hsz hIo hSt hcell hkind hx hst hfp hP F N hIL hI0 off hS tst elm ?_
  intro D C h' tk m' ys F' N' o1 hn hC₀ hD₀ hCL hDL hCD offC hys
  show wpAny _ _ (assign (.Name y py) env (.ref D)) _ _ _
  refine wpAny_assign_Name (wpAny_storeName_local hy F'.ns (fun h₂ hn₂ hs₂ => ?_) hp)
  have hL₀ : h₀.get? env.locals = none := Heap.get?_none_of_le F'.above
  have F₂ : Fr h₀ env.locals h₂ (fun z => if z = y then some (.ref D) else m z) := ⟨hn₂, fun b o e => hs₂.extBut b o (fun q => by rw [q, hL₀] at e; cases e) (F'.keep b o e), F'.above⟩
  refine ⟨m', hn.sameBut hs₂ hCL, fun h'' hs'' => fin D ys h'' _ hys (F₂.change hs'' hCL hC₀) (fun p hp => ?_)⟩
  have z : h₂.get? p.1 = some p.2 := hs₂.extBut _ _ (N' p hp).2.1 (N' p hp).1
  refine ⟨hs''.extBut _ _ ?_ z, (N' p hp).2⟩
  rcases List.mem_cons.mp hp with rfl | hp
  · exact Ne.symm hCD
  · exact offC p hp
theorem srcI_bytes {Q : Shared → Addr → List Value → Heap → Nat → List (Addr × Obj) → Prop} {news : List (Addr × Obj)} {b : Array UInt8} {t : Tok} (hh : A.handled = none) (F : Fr h₀ L s.heap m) (N : News h₀ L s.heap news) (hk : KBw.bInts b = ks) (hsz : ks.length ≤ 1000000)
    (tst : ∀ g', TurnIT prog w A h₀ L m env c x scope cl ks p news { s with heap := g' }) (elm : ∀ g', TurnIE prog w A h₀ L m env elt x scope cl ks p f news { s with heap := g' })
    (fin : ∀ g' D ys h tk, IntsAre ys ((ks.filter p).map f) → Q { s with heap := g' } D ys h tk news) :
    wpAny (model prog w) A (pyIter (.bytes b t)) (SrcI prog w A h₀ L m env elt c x scope cl Q) E s := by
  have hl : ks.length = b.size := by rw [← hk, KBw.ints_length]
  refine KBw.pyIter_bytes ?_
  refine ⟨ks, p, f, s.heap.objs.size, [s.heap.objs.size], _, _, fun _ => True, news, rfl, hl ▸ KBw.walks hh s.heap.objs.size b t, hsz, fun i h st => ?_, fun i h h' o nw st e e' _ _ _ => ?_, ⟨_, Heap.get?_push_size _ rfl, rfl, rfl⟩, fun b hb => ?_, fun i v hv => ?_,
    F.push _, fun p hp => ⟨Heap.get?_push_of_some _ (N p hp).1, (N p hp).2⟩, Nat.ne_of_lt F.ns.lt, next_is_new F, fun p hp => Nat.ne_of_lt (Heap.lt_size (N p hp).1), trivial, tst _, elm _, fin _⟩
  · obtain ⟨o, e, _⟩ := st; exact ⟨o, e⟩
  · obtain ⟨o', q, r⟩ := st; rw [e] at q; cases q; exact ⟨o, e', r⟩
  · rw [List.mem_singleton.mp hb]
    show s.heap.objs.size < (s.heap.push _).objs.size
    rw [Heap.size_push]; exact Nat.lt_succ_self _
  · obtain ⟨c, u, hc, rfl⟩ := hv
    exact ⟨u, (c.toNat : Int), by rw [← hk]; unfold KBw.bInts; simp [hc], rfl⟩
end
end Mine
end
section
set_option maxRecDepth 100000
namespace Mine
section
variable {prog : Program} {w : World} {A : Around} {E : Value → Shared → Prop} {s : Shared}
theorem item_zero {value slice : Expr} {D : Addr} {vs : List Value} {x : Value} {t : Tok} {Q : Value → Shared → Prop} (hl : s.heap.IsList D vs.toArray) (h0 : vs[0]? = some x) (h : Q x s)
    (hs : subscripted slice false (.ref D) (.int 0 t) = operate [.ref D, .int 0 t] (getItem (.ref D) (.int 0 t))) (hg : ∀ r, letTemporaryGo value (.ref D) r = pure ()) :
    wpAny (model prog w) A (subscriptTail value slice (.ref D) (.int 0 t)) Q E s :=
  subscriptTail_builtin hl.typeIs PySem.slot_list_getitem.lookup (wpAny_getItem_list hl (by decide) (by decide) (by simpa using h0) h) hs hg
end
/-- the place of a sign -/
theorem find_sgn : ∀ k ∈ SGN, PySem.Builtin.Bytes.find? #[65, 66, 67, 68, 69, 70, 71, 72, 73, 74, 75, 76, 77, 78, 79, 80, 81, 82, 83, 84, 85, 86, 87, 88, 89, 90, 97, 98, 99, 100, 101, 102, 103, 104, 105, 106, 107, 108, 109, 110, 111, 112, 113, 114, 115, 116, 117, 118, 119, 120, 121, 122, 48, 49, 50, 51, 52, 53, 54, 55, 56, 57, 43, 47] #[k.toNat.toUInt8] 0 64 = some (SGN.idxOf k) := by decide +kernel
section
local macro_rules | `(tactic| walk_at "none 0") => `(tactic| fail)
local macro_rules | `(tactic| walk_at "eval ListComp") => `(tactic| walk_at "Z1")
local macro_rules | `(tactic| walk_at "exec Assign cons ListComp") => `(tactic| walk_at "Z2")
local macro_rules | `(tactic| walk_at "exec For Name Name cons nil") => `(tactic| walk_at "Z3")
local macro_rules | `(tactic| walk_at "exec For Name Call cons nil") => `(tactic| walk_at "Z3")
local macro_rules | `(tactic| walk_at "binaryOp BitAnd int int") => `(tactic| (with_reducible first | refine and63 ?_ | refine and255 ?_))
local macro_rules | `(tactic| walk_at "exec Assign cons ListComp") => `(tactic| (k_here; (rename Fr _ _ _ _ => lF'); (refine' Assign_ListComp_I lF' ?hLe ?hsw ?hclos ?hcell ?hkind ?hnames ?hx ?hy ?hp ?_ ?hs); (case hLe => with_unfolding_all rfl); (case hsw => with_unfolding_all rfl); (case hclos => with_unfolding_all rfl); (case hcell => decide); (case hkind => with_unfolding_all rfl); (case hnames => decide); (case hx => with_unfolding_all rfl); (case hy => with_unfolding_all rfl); (case hp => with_unfolding_all rfl); (case hs => intro _; with_unfolding_all rfl)))
local macro_rules | `(tactic| walk_at "subscriptTail") => `(tactic| (k_here; (with_reducible show wpAny _ _ (subscriptTail _ (Expr.Slice _ _ none _) (Value.bytes _ _) (Value.ref _)) _ _ _); (with_reducible rename Fr _ _ _ _ => F'); (with_reducible rename News _ _ _ _ => N'); (first | (refine' slice_nn (s := ⟨_, _, _, _, _⟩) F' N' ?kb ?k0 ?k1 ?kz ?_ ?hs ?ht; (case kb => assumption); (case k0 => omega); (case k1 => omega)) | (refine' slice_to (s := ⟨_, _, _, _, _⟩) F' N' ?kb ?k1 ?kz ?_ ?hs ?ht; (case kb => assumption); (case k1 => omega)) | (refine' slice_from (s := ⟨_, _, _, _, _⟩) F' N' ?kb ?k1 ?kz ?_ ?hs ?ht; (case kb => assumption); (case k1 => omega))); (case kz => omega); (case hs => with_unfolding_all rfl); (case ht => intro _; with_unfolding_all rfl); intro b' h' t' k' F' N' hb'))
local macro_rules | `(tactic| walk_at "call builtin:len") => `(tactic| (refine len_to (by assumption) (by omega) ?_))
local macro_rules | `(tactic| walk_at "getMethod bytes") => `(tactic| walk_at "Z8")
local macro_rules | `(tactic| walk_at "compareOp In int bytes") => `(tactic| (refine in_bytes (by omega) (by omega) ?_))
local macro_rules | `(tactic| walk_at "eval Call") => `(tactic| (with_unfolding_all refine Call_ ?_))
local macro_rules | `(tactic| walk_at "subscriptTail") => `(tactic| (refine item_zero (News.isList (by assumption) (.head _)) (by assumption) ?_ ?hs ?ht; (case hs => with_unfolding_all rfl); (case ht => intro _; with_unfolding_all rfl)))
/-- the octets of the law's lax reading -/
def laxL (ks : List Int) : List Int := octL (flat2 6 (bitOf 6) (((ks.takeWhile (· != 61)).filter (fun k => decide (k ∈ SGN))).map (fun k => (SGN.idxOf k : Int))))
set_option maxHeartbeats 8000000 in
theorem lax_spec {w : World} {mean : ExcName → Option Value} {mg mb : Str → Option Value} {dp un : Nat} {gd : Option (List Code)} {fr : Option (List Env)} {s : Shared} {E Q : Value → Shared → Prop}
    {b : Array UInt8} {ks : List Int} {tb : Tok}
    (X : (Mine.hd.heap_1_39 w.params).In s.heap) (T : Top Mine.hd.view_1_40 (looseW Mine.hd.view_1_40 [Str.ofString "PostError", Str.ofString "encoded"]) mean mg mb s.heap) (hdp : dp + 30 < recursionLimit) (hun : un + 300 < cLine)
    (hb : KBw.bInts b = ks) (hl : ks.length ≤ 1000)
    (ret : ∀ c t h' tk', (∀ b o, s.heap.get? b = some o → h'.get? b = some o) → KBw.bInts c = laxL ks → Q (.bytes c t) { s with heap := h', toks := tk' }) :
    wpAny (model PySem.Challenge.rw_no0352_01.row.prog w) (Ar dp un gd fr) (call (.ref 168) [.bytes b tb]) Q E s := by
  revert X; k_fill; intro X
  refine' enter (binds := [(Str.ofString "data", .bytes b tb)]) X T ?k6 ?k7 ?k8 ?k9 ?kB ?_ ?c2 ?c3 ?c4 ?c5; (case k6 => k_is); (case k7 => k_is); (case k8 => (simp only [recursionLimit] at *; omega)); (case k9 => exact BindsTo.of_eq rfl); (case c5 => decide); (case kB => exact locs rfl); (case c2 => exact rfl); (case c3 => exact rfl); (case c4 => exact rfl)
  intro L' h' F' N'
  try dsimp only
  try k_fold
  k_steps
  refine bytes_split hb hl (fun D vs h2 k2 b0 t0 hk2 hD hg hvl hv0 hb0 => ?_)
  rename Fr _ _ _ _ => Fc
  rename News _ _ _ _ => Nc
  have Fd := Fc.keeps hk2
  have Nd := news_more Fc Nc hk2 hD hg
  clear Fc Nc
  (try dsimp only)
  (try k_fold)
  k_steps
  rename Fr _ _ _ _ => F0
  rename News _ _ _ _ => N0
  have hkl : (ks.takeWhile (· != 61)).length ≤ 1000 := Nat.le_trans (List.takeWhile_sublist _).length_le hl
  have hbd : ∀ k ∈ ks.takeWhile (· != 61), 0 ≤ k ∧ k < 256 := fun k hk => KBw.ints_in (b := b) (by rw [hb]; exact (List.takeWhile_sublist _).subset hk)
  show wpAny _ _ (pyIter _) _ _ _
  refine srcI_bytes (p := fun k => decide (k ∈ SGN)) (f := fun k => (SGN.idxOf k : Int)) rfl F0 N0 hb0 (by omega) (fun g' => ?_) (fun g' => ?_) ?_
  · clear F0 N0
    intro k t ys I oI C oC D9 m₂ h tk hkm hC hx F₂ N₂
    have hk1 := (hbd k hkm).1
    have hk2 := (hbd k hkm).2
    (try k_fold)
    k_steps
    all_goals (rename Fr _ _ _ _ => Fz; rename News _ _ _ _ => Nz; first | exact Fz | exact Nz | exact fun p hp => Nz p (.tail _ hp))
  · clear F0 N0
    intro k t ys I oI C oC D9 m₂ h tk hkm hpk hC hx F₂ N₂
    have hk1 := (hbd k hkm).1
    have hk2 := (hbd k hkm).2
    have hin : k ∈ SGN := by simpa using hpk
    (try k_fold)
    k_steps
    refine bytes_index hk1 hk2 (find_sgn k hin) ?_
    k_steps
    all_goals (rename Fr _ _ _ _ => Fz; rename News _ _ _ _ => Nz; first | exact Fz | exact Nz | exact fun p hp => Nz p (.tail _ hp))
  · clear F0 N0
    intro g' D9 ys h tk hys F₂ N₂
    (try dsimp only)
    (try k_fold)
    k_steps
    rename Fr _ _ _ _ => Fc
    rename News _ _ _ _ => Nc
    have hrl := hys.length
    have hfl : (((ks.takeWhile (· != 61)).filter (fun k => decide (k ∈ SGN))).map (fun k => (SGN.idxOf k : Int))).length ≤ 1000 := by
      rw [List.length_map]; exact Nat.le_trans (List.length_filter_le _ _) hkl
    refine' bits6_spec (Frag.In.keeps X Fc.keep) (T.keeps Fc.keep) ?hdp ?hun (News.isList Nc (.head _)) hys hfl ?b6
    case hdp => simp only [recursionLimit] at *; omega
    case hun => (have := cLine_is; show un + 3 + _ < _; omega)
    case b6 =>
    intro D3 zs h3 tk3 hk3 hD3 hg3 hzs
    have Fd := Fc.keeps hk3
    have Nd := news_more Fc Nc hk3 hD3 hg3
    clear Fc Nc
    (try dsimp only)
    (try k_fold)
    k_steps
    rename Fr _ _ _ _ => Fc
    rename News _ _ _ _ => Nc
    refine' octets_spec (Frag.In.keeps X Fc.keep) (T.keeps Fc.keep) ?hdp ?hun (News.isList Nc (.head _)) hzs flat2_or (by rw [flat2_length]; omega) ?oc
    case hdp => simp only [recursionLimit] at *; omega
    case hun => (have := cLine_is; show un + 3 + _ < _; omega)
    case oc =>
    intro c tc h4 tk4 hk4 hc4
    exact ret _ _ _ _ (Fr.keep (Fc.keeps hk4)) hc4
end
end Mine
end
theorem Mine.quiet_C168 : True := by w_top off; trivial
local macro_rules | `(tactic| walk_at "Z10") => `(tactic| (k_here; (with_reducible show wpAny _ _ (subscriptTail _ (Expr.Slice _ _ none _) (Value.bytes _ _) (Value.ref _)) _ _ _); (with_reducible rename Fr _ _ _ _ => F'); (with_reducible rename News _ _ _ _ => N'); (first | (refine' slice_nn (s := ⟨_, _, _, _, _⟩) F' N' ?kb ?k0 ?k1 ?kz ?_ ?hs ?ht; (case kb => assumption); (case k0 => omega); (case k1 => omega)) | (refine' slice_to (s := ⟨_, _, _, _, _⟩) F' N' ?kb ?k1 ?kz ?_ ?hs ?ht; (case kb => assumption); (case k1 => omega)) | (refine' slice_from (s := ⟨_, _, _, _, _⟩) F' N' ?kb ?k1 ?kz ?_ ?hs ?ht; (case kb => assumption); (case k1 => omega))); (case kz => omega); (case hs => with_unfolding_all rfl); (case ht => intro _; with_unfolding_all rfl); intro b' h' t' k' F' N' hb'))
section
set_option maxRecDepth 100000
namespace Mine
/-- the leading signs of a group -/
def sgnC (g : List Int) : Nat := (g.takeWhile (fun k => decide (k ∈ SGN))).length
def sgnB (g : List Int) : List Int := flat2 6 (bitOf 6) ((g.take (sgnC g)).map (fun k => (SGN.idxOf k : Int)))
/-- what the law's own strict reading says of the group at a place -/
def strG (ks : List Int) (p : Nat) : Except Int (List Int) :=
  let g := (ks.drop p).take 4
  let c := sgnC g
  if c < 2 ∨ (c < 4 ∧ (g.length = c ∨ g.getD c 0 ≠ 61)) then .error ((p : Int) + c)
  else if 1 ∈ (sgnB g).drop (8 * (c - 1)) then .error ((p : Int) + c - 1)
  else if c < 4 ∧ g.drop c ≠ List.replicate (4 - c) 61 then .error ((p : Int) + 3)
  else if c < 4 ∧ p + 4 < ks.length then .error ((p : Int) + 4)
  else .ok (octL (sgnB g))
def strN (ks : List Int) : Nat → Except Int (List Int)
  | 0 => .ok []
  | n + 1 => match strN ks n with
    | .error p => .error p
    | .ok r => match strG ks (4 * n) with
      | .error p => .error p
      | .ok o => .ok (r ++ o)
/-- the law's own strict reading -/
def strR (ks : List Int) : Except Int (List Int) := strN ks ((ks.length + 3) / 4)
theorem strN_error {ks : List Int} {i : Nat} {p : Int} (h : strN ks i = .error p) : ∀ j, strN ks (i + j) = .error p
  | 0 => h
  | j + 1 => by
    show (match strN ks (i + j) with | .error p => Except.error p | .ok r => match strG ks (4 * (i + j)) with | .error p => .error p | .ok o => .ok (r ++ o)) = _
    rw [strN_error h j]
theorem str_error {ks : List Int} {i : Nat} {r : List Int} {p : Int} (h0 : strN ks i = .ok r) (hi : i < (ks.length + 3) / 4) (h : strG ks (4 * i) = .error p) : strR ks = .error p := by
  have h1 : strN ks (i + 1) = .error p := by
    show (match strN ks i with | .error p => Except.error p | .ok r => match strG ks (4 * i) with | .error p => .error p | .ok o => .ok (r ++ o)) = _
    rw [h0, h]
  have := strN_error h1 ((ks.length + 3) / 4 - (i + 1))
  rw [show i + 1 + ((ks.length + 3) / 4 - (i + 1)) = (ks.length + 3) / 4 by (first | lia | omega)] at this
  exact this
theorem str_ok {ks : List Int} {i : Nat} {r o : List Int} (h0 : strN ks i = .ok r) (h : strG ks (4 * i) = .ok o) : strN ks (i + 1) = .ok (r ++ o) := by
  show (match strN ks i with | .error p => Except.error p | .ok r => match strG ks (4 * i) with | .error p => .error p | .ok o => .ok (r ++ o)) = _
  rw [h0, h]
def sgnX (g : List Int) (c : Nat) : List Int := flat2 6 (bitOf 6) ((g.take c).map (fun k => (SGN.idxOf k : Int)))
section
variable {ks g : List Int} {p c : Nat} {q : Int}
theorem strG_eq (hg : g = (ks.drop p).take 4) (hc : sgnC g = c) : strG ks p = (if c < 2 ∨ (c < 4 ∧ (g.length = c ∨ g.getD c 0 ≠ 61)) then .error ((p : Int) + c)
  else if 1 ∈ (sgnX g c).drop (8 * (c - 1)) then .error ((p : Int) + c - 1)
  else if c < 4 ∧ g.drop c ≠ List.replicate (4 - c) 61 then .error ((p : Int) + 3)
  else if c < 4 ∧ p + 4 < ks.length then .error ((p : Int) + 4)
  else .ok (octL (sgnX g c))) := by subst hg hc; rfl
theorem strG_e1 (hg : g = (ks.drop p).take 4) (hc : sgnC g = c) (h : c < 2 ∨ (c < 4 ∧ (g.length = c ∨ g.getD c 0 ≠ 61))) (hq : q = p + c) : strG ks p = .error q := by
  rw [strG_eq hg hc, if_pos h, hq]
theorem strG_e2 (hg : g = (ks.drop p).take 4) (hc : sgnC g = c) (h : ¬ (c < 2 ∨ (c < 4 ∧ (g.length = c ∨ g.getD c 0 ≠ 61)))) (h2 : 1 ∈ (sgnX g c).drop (8 * (c - 1))) (hq : q = p + c - 1) : strG ks p = .error q := by
  rw [strG_eq hg hc, if_neg h, if_pos h2, hq]
theorem strG_e3 (hg : g = (ks.drop p).take 4) (hc : sgnC g = c) (h : ¬ (c < 2 ∨ (c < 4 ∧ (g.length = c ∨ g.getD c 0 ≠ 61)))) (h2 : ¬ 1 ∈ (sgnX g c).drop (8 * (c - 1)))
    (h3 : c < 4 ∧ g.drop c ≠ List.replicate (4 - c) 61) (hq : q = p + 3) : strG ks p = .error q := by
  rw [strG_eq hg hc, if_neg h, if_neg h2, if_pos h3, hq]
theorem strG_e4 (hg : g = (ks.drop p).take 4) (hc : sgnC g = c) (h : ¬ (c < 2 ∨ (c < 4 ∧ (g.length = c ∨ g.getD c 0 ≠ 61)))) (h2 : ¬ 1 ∈ (sgnX g c).drop (8 * (c - 1)))
    (h3 : ¬ (c < 4 ∧ g.drop c ≠ List.replicate (4 - c) 61)) (h4 : c < 4 ∧ p + 4 < ks.length) (hq : q = p + 4) : strG ks p = .error q := by
  rw [strG_eq hg hc, if_neg h, if_neg h2, if_neg h3, if_pos h4, hq]
theorem strG_ok (hg : g = (ks.drop p).take 4) (hc : sgnC g = c) (h : ¬ (c < 2 ∨ (c < 4 ∧ (g.length = c ∨ g.getD c 0 ≠ 61)))) (h2 : ¬ 1 ∈ (sgnX g c).drop (8 * (c - 1)))
    (h3 : ¬ (c < 4 ∧ g.drop c ≠ List.replicate (4 - c) 61)) (h4 : ¬ (c < 4 ∧ p + 4 < ks.length)) : strG ks p = .ok (octL (sgnX g c)) := by
  rw [strG_eq hg hc, if_neg h, if_neg h2, if_neg h3, if_neg h4]
theorem take_while {α : Type} (f : α → Bool) : ∀ g : List α, g.take (g.takeWhile f).length = g.takeWhile f
  | [] => rfl
  | a :: r => by
    rw [List.takeWhile_cons]
    split
    · rw [List.length_cons, List.take_succ_cons, take_while f r]
    · rfl
theorem while_holds {α : Type} (f : α → Bool) : ∀ g : List α, ∀ k ∈ g.takeWhile f, f k = true
  | [], k, hk => nomatch hk
  | a :: r, k, hk => by
    rw [List.takeWhile_cons] at hk
    split at hk
    · rename_i h
      rcases List.mem_cons.mp hk with rfl | hk
      · exact h
      · exact while_holds f r k hk
    · nomatch hk
theorem sgn_taken (hc : sgnC g = c) : ∀ k ∈ g.take c, k ∈ SGN := by
  intro k hk
  rw [← hc] at hk
  unfold sgnC at hk
  rw [take_while] at hk
  have := while_holds (fun k => decide (k ∈ SGN)) _ _ hk
  simpa using this
end
theorem one_yes {l : List Int} {a : Int} {n : Nat} (h : ((l.drop a.toNat).any fun x => x == 1) = true) (e : a.toNat = n) : 1 ∈ l.drop n := by
  rw [e] at h
  obtain ⟨x, hx, h1⟩ := List.any_eq_true.mp h
  have : x = 1 := by simpa using h1
  exact this ▸ hx
theorem one_no {l : List Int} {a : Int} {n : Nat} (h : ((l.drop a.toNat).any fun x => x == 1) = false) (e : a.toNat = n) : ¬ 1 ∈ l.drop n := fun hm => by
  rw [e] at h
  have : ((l.drop n).any fun x => x == 1) = true := List.any_eq_true.mpr ⟨1, hm, rfl⟩
  rw [this] at h; cases h
theorem pads_list {c : Nat} : (List.replicate (4 - (c : Int)).toNat [(61 : UInt8)]).flatten.toArray.toList = List.replicate (4 - c) 61 := by
  rw [rep_one, show (4 - (c : Int)).toNat = 4 - c by (first | lia | omega)]
theorem pads_ne {bb : Array UInt8} {g : List Int} {c : Nat} (hb : KBw.bInts bb = g.drop ((c : Int)).toNat) (h : (bb.toList != (List.replicate (4 - (c : Int)).toNat [(61 : UInt8)]).flatten.toArray.toList) = true) : g.drop c ≠ List.replicate (4 - c) 61 := fun e => by
  rw [Int.toNat_natCast, e] at hb
  rw [pads_list] at h
  unfold KBw.bInts at hb
  have e2 : bb.toList = List.replicate (4 - c) 61 := by
    refine List.eq_replicate_iff.mpr ⟨by simpa using congrArg List.length hb, fun u hu => ?_⟩
    have h1 := List.mem_map_of_mem (f := fun u : UInt8 => (u.toNat : Int)) hu
    rw [hb] at h1
    have h2 : (u.toNat : Int) = 61 := List.eq_of_mem_replicate h1
    have h3 : u.toNat = (61 : UInt8).toNat := by
      have : (61 : UInt8).toNat = 61 := rfl
      (first | lia | omega)
    exact UInt8.toNat_inj.mp h3
  rw [e2] at h
  simp at h
theorem pads_eq {bb : Array UInt8} {g : List Int} {c : Nat} (hb : KBw.bInts bb = g.drop ((c : Int)).toNat) (h : (bb.toList != (List.replicate (4 - (c : Int)).toNat [(61 : UInt8)]).flatten.toArray.toList) = false) : g.drop c = List.replicate (4 - c) 61 := by
  rw [Int.toNat_natCast] at hb
  rw [pads_list] at h
  have e : bb.toList = List.replicate (4 - c) 61 := by simpa using h
  rw [← hb]
  unfold KBw.bInts
  rw [e, List.map_replicate]; rfl
theorem strG_length {ks r : List Int} {p : Nat} (h : strG ks p = .ok r) : r.length ≤ 3 := by
  have hg : ((ks.drop p).take 4).length ≤ 4 := by rw [List.length_take]; (first | lia | omega)
  generalize e : (ks.drop p).take 4 = g at hg
  rw [strG_eq e.symm rfl] at h
  split at h
  · cases h
  split at h
  · cases h
  split at h
  · cases h
  split at h
  · cases h
  · cases h
    unfold octL sgnX
    rw [List.length_map, List.length_range, flat2_length, List.length_map, List.length_take]
    (first | lia | omega)
theorem strN_length {ks : List Int} : ∀ {i : Nat} {r : List Int}, strN ks i = .ok r → r.length ≤ 3 * i
  | 0, r, h => by cases h; simp
  | i + 1, r, h => by
    have h' : (match strN ks i with | .error p => Except.error p | .ok r => match strG ks (4 * i) with | .error p => .error p | .ok o => .ok (r ++ o)) = .ok r := h
    split at h'
    · cases h'
    · rename_i r0 h0
      split at h'
      · cases h'
      · rename_i o ho
        have e : r = r0 ++ o := by cases h'; rfl
        rw [e, List.length_append]
        have := strN_length h0
        have := strG_length ho
        (first | lia | omega)
end Mine
end
section
open PySem.Spec PySem.Builtin
set_option maxRecDepth 100000
namespace Mine
theorem no_keys : typeLookup (.type "list") "keys" = pure none := by rw [typeLookup_type, builtinLookup_eq_fast]; kernel_rfl
theorem is_attr : isSubtype (.type "AttributeError") (.type "AttributeError") = pure true := by rw [isSubtype_type]; kernel_rfl
section
variable {prog : Program} {w : World} {A : Around} {E : Value → Shared → Prop} {s : Shared}
theorem keys_none {a : Addr} {xs : Array Value} {k : Nat} {sl : Array (Option Value)} {Q : Option Value → Shared → Prop} (hx : s.heap.get? a = some { cls := .type "list", dict := none, data := .seq xs k, slots := sl }) (hA : A.handled = none)
    (h : ∀ h' tk, (∀ b o, s.heap.get? b = some o → h'.get? b = some o) → Q none { s with heap := h', toks := tk }) : wpAny (model prog w) A (getAttr? (.ref a) "keys") Q E s := by
  obtain ⟨hp, g, d, tk, os⟩ := s
  have hT : ∀ tk', (⟨hp, g, d, tk', os⟩ : Shared).TypeIs (.ref a) "list" := fun _ => ⟨_, hx, rfl⟩
  have f1 := is_attr
  have f3 := F.slot_list_getattribute.lookup
  have f4 := F.slot_list_getattribute.bind (.ref a)
  have f5 := am_list_getattr_none
  unfold getAttr? getAttrBy? getAttrBy
  repeat (any_goals (first | assumption | exact hT _ | ((with_reducible show wpAny _ _ (call (Value.builtin "list.__getattribute__") _ _) _ _ _); refine call_meets F.slot_list_getattribute (hT _) am_entry_list_getattribute (F.args_list_getattribute_2 _ _) (meets_getattribute_miss_list a xs k sl "keys" _ no_keys (by decide +kernel) (by decide +kernel)) ⟨hx, hA, fun h' tk' e hx' => ?_⟩) | wp_step))
  obtain ⟨t', u', he⟩ := hx'.there
  show wpAny _ _ (getattributeRaised _ _ _ _ _ _ _) _ _ _
  unfold getattributeRaised
  repeat (any_goals (first | assumption | wp_step))
  exact h _ _ hx'.keeps
theorem plain_update_loop : plainId "dict.update.loop" = true := by decide +kernel
theorem entry_update_loop : entryFor table "dict.update.loop" = some Builtin.«dict.update.loop» := entryFor_of_fast (by kernel_rfl)
/-- x's own place in the row ks, none if it has none -/
def WorthMap (ks : List Int) (f : Int → Option Value) : Prop := ∀ x, (x ∈ ks → ∃ t, f x = some (.int (ks.idxOf x) t)) ∧ (x ∉ ks → f x = none)
theorem WorthMap.step {ks : List Int} {i : Nat} {k : Int} {t : Tok} {f} (h : WorthMap (ks.take i) f) (hn : ks.Nodup) (hk : ks[i]? = some k) :
    WorthMap (ks.take (i + 1)) (fun x => if x = k then some (.int i t) else f x) := by
  have hlt : i < ks.length := (List.getElem?_eq_some_iff.mp hk).1
  have e : ks.take (i + 1) = ks.take i ++ [k] := by rw [List.take_add_one, hk]; rfl
  have hnk : k ∉ ks.take i := by
    have : (ks.take (i + 1)).Nodup := hn.sublist (List.take_sublist _ _)
    rw [e, List.nodup_append] at this
    exact fun hm => this.2.2 k hm k (by simp) rfl
  intro x
  rw [e]
  show (_ → ∃ t', (if x = k then some (Value.int i t) else f x) = _) ∧ (_ → (if x = k then some (Value.int i t) else f x) = _)
  by_cases hx : x = k
  · subst hx
    refine ⟨fun _ => ⟨t, ?_⟩, fun h' => absurd (by simp) h'⟩
    rw [if_pos rfl, List.idxOf_append, if_neg hnk, List.length_take, Nat.min_eq_left (Nat.le_of_lt hlt)]
    simp
  · rw [if_neg hx]
    refine ⟨fun h' => ?_, fun h' => (h x).2 fun hm => h' (by simp [hm])⟩
    have hm : x ∈ ks.take i := by simpa [hx] using h'
    obtain ⟨t', ht⟩ := (h x).1 hm
    exact ⟨t', by rw [ht, List.idxOf_append, if_pos hm]⟩
/-- the tuples of a worth table's pairs -/
def PairsAre (h : Heap) (xs : List Value) (ks : List Int) : Prop := xs.length = ks.length ∧ ∀ (i : Nat) (k : Int), ks[i]? = some k → ∃ (T : Addr) (t t' : Tok), xs[i]? = some (.ref T) ∧ h.get? T = some { cls := .type "tuple", data := .seq [.int k t, .int i t'].toArray }
theorem PairsAre.keeps {h h' : Heap} {xs ks} (p : PairsAre h xs ks) (hk : ∀ b o, h.get? b = some o → o.cls = .type "tuple" → h'.get? b = some o) : PairsAre h' xs ks :=
  ⟨p.1, fun i k hi => by obtain ⟨T, t, t', hx, ho⟩ := p.2 i k hi; exact ⟨T, t, t', hx, hk _ _ ho rfl⟩⟩
theorem update_loop {R : Result → Shared → Prop} {d I l : Addr} {xs : List Value} {ks : List Int} (hA : A.handled = none) (hn : ks.Nodup) (hle : ks.length ≤ sizeLine) (hlI : l ≠ I) (hld : l ≠ d) (hdI : d ≠ I) {h₀ : Heap} {g : Array GenState} {dr : Drawn} {os : OsState}
    (hp : PairsAre h₀ xs ks) :
    ∀ (n i : Nat) (h : Heap) (tk : Nat) (f : Int → Option Value), ks.length - i = n → i ≤ ks.length → (∀ b o, b ≠ d → b ≠ I → h₀.get? b = some o → h.get? b = some o) → h₀.IsList l xs.toArray →
    h.IsListIter I l i → h.IntMap d f → h.DictLe d i → WorthMap (ks.take i) f → (∀ o, h₀.get? d = some o → o.cls ≠ .type "tuple") → (∀ o, h₀.get? I = some o → o.cls ≠ .type "tuple") →
    (∀ h' tk' f', (∀ b o, b ≠ d → b ≠ I → h₀.get? b = some o → h'.get? b = some o) → h'.IntMap d f' → WorthMap ks f' → R (.ok (.ret .none)) ⟨h', g, dr, tk', os⟩) →
    codeAny (model prog w) A (.builtin "dict.update.loop" ⟨[.ref d, .ref I, .int i 0, .none], []⟩) R ⟨h, g, dr, tk, os⟩ := by
  intro n
  induction n with
  | zero =>
    intro i h tk f hni hi hk hl hit hm hz hw hd0 hI0 hR
    have hin : i = ks.length := by (first | lia | omega)
    have hl' : h.IsList l xs.toArray := by obtain ⟨o, ho, r⟩ := hl; exact ⟨o, hk _ _ hld hlI ho, r⟩
    refine codeAny_builtin entry_update_loop ?_
    rw [Around.under_plainId plain_update_loop _]
    show wpAny _ A.in1 (pyNext (.ref I) >>= _) _ _ _
    refine wpAny_bind (wpAny_pyNext_list_end hA hit hl' (by simp [hp.1, hin]) fun h' he => ?_)
    show wpAny _ _ (Builtin.Dict.addKeywords d [] >>= _) _ _ _
    refine wpAny_bind (wpAny_pure (wpAny_pure (hR h' tk f (fun b o h1 h2 ho => he b o h2 (hk b o h1 h2 ho)) (hm.extBut he hdI) ?_)))
    rwa [hin, List.take_of_length_le (Nat.le_refl _)] at hw
  | succ n ih =>
    intro i h tk f hni hi hk hl hit hm hz hw hd0 hI0 hR
    have hlt : i < ks.length := by (first | lia | omega)
    obtain ⟨T, t, t', hx, hT⟩ := hp.2 i _ (List.getElem?_eq_getElem hlt)
    have hTd : T ≠ d := fun e => hd0 _ (e ▸ hT) rfl
    have hTI : T ≠ I := fun e => hI0 _ (e ▸ hT) rfl
    have hl' : h.IsList l xs.toArray := by obtain ⟨o, ho, r⟩ := hl; exact ⟨o, hk _ _ hld hlI ho, r⟩
    refine codeAny_builtin entry_update_loop ?_
    rw [Around.under_plainId plain_update_loop _]
    show wpAny _ A.in1 (pyNext (.ref I) >>= _) _ _ _
    refine wpAny_bind (wpAny_pyNext_list_item hit hl' (x := .ref T) (by simp [hx]) fun h' hit' hs' => ?_)
    have hT' : h'.get? T = some { cls := .type "tuple", data := .seq [.int ks[i] t, .int i t'].toArray } := (hs'.2 T hTI).trans (hk _ _ hTd hTI hT)
    have hm' : h'.IntMap d f := hm.sameBut hs' hdI
    show wpAny _ A.in1 (holding [.ref T] _ >>= _) _ _ _
    refine wpAny_bind (wpAny_holding ?_)
    have hty : (⟨h', g, dr, tk, os⟩ : Shared).TypeIs (.ref T) "tuple" := ⟨_, hT', rfl⟩
    refine wpAny_bind (wpAny_tryCatch ?_)
    unfold Builtin.Dict.pairItems
    refine wpAny_bind (wpAny_typeOf hty ?_)
    rw [if_pos (by decide)]
    refine wpAny_bind (wpAny_seqItems hT' rfl (wpAny_pure ?_))
    show wpAny _ _ (holding [.int ks[i] t, .int i t'] (dictSet d (.int ks[i] t) (.int i t'))) _ _ _
    refine wpAny_holding (wpAny_dictSet_int_le (s := ⟨h', g, dr, tk, os⟩) hm' (hz.sameBut hs' hdI) (by (first | lia | omega)) fun h2 hm2 hz2 hs2 => ?_)
    refine wpAny_pure ⟨plainId_quiet plain_update_loop _, ih (i + 1) h2 _ _ (by (first | lia | omega)) hlt (fun b o h1 h2 ho => (hs2.2 b h1).trans ((hs'.2 b h2).trans (hk b o h1 h2 ho))) hl ?_ hm2 hz2 (hw.step hn (List.getElem?_eq_getElem hlt)) hd0 hI0 hR⟩
    obtain ⟨o, ho, r⟩ := hit'
    exact ⟨o, (hs2.2 I (Ne.symm hdI)).trans ho, r⟩
end
section
variable {prog : Program} {w : World} {A : Around} {E : Value → Shared → Prop} {s : Shared}
theorem call_dict_pairs {l : Addr} {xs : List Value} {ks : List Int} {k : Nat} {sl : Array (Option Value)} {Q : Value → Shared → Prop} (hA : A.handled = none) (hl : s.heap.get? l = some { cls := .type "list", dict := none, data := .seq xs.toArray k, slots := sl }) (hp : PairsAre s.heap xs ks) (hn : ks.Nodup) (hle : ks.length ≤ sizeLine)
    (h : ∀ h' tk f, (∀ b o, s.heap.get? b = some o → h'.get? b = some o) → h'.IntMap s.heap.objs.size f → WorthMap ks f → Q (.ref s.heap.objs.size) { s with heap := h', toks := tk }) :
    wpAny (model prog w) A (call (.type "dict") [.ref l]) Q E s := by
  refine callType_codes (Q₁ := fun obj s₁ => obj = .ref s.heap.objs.size ∧ s₁ = { s with heap := s.heap.push { cls := .type "dict", data := .dict #[] } }) F.kt_called_dict (F.kt_typeCall_dict_1 _) F.entry_dict_init (kt_code_dict_new _ ⟨rfl, rfl⟩) ?_
  rintro obj s₁ ⟨rfl, rfl⟩
  have hm0 : (s.heap.push { cls := .type "dict", data := .dict #[] }).IntMap s.heap.objs.size fun _ => none := Heap.IntMap.new _
  have hz0 : (s.heap.push { cls := .type "dict", data := .dict #[] }).DictLe s.heap.objs.size 0 := Heap.DictLe.new _
  refine ⟨hm0.typeIs (s := { s with heap := s.heap.push { cls := .type "dict", data := .dict #[] } }), F.args_dict_init_2 _ _, ?_⟩
  unfold Builtin.«dict.__init__»
  refine wpAny_bind ?_
  unfold Builtin.Dict.selfAndRest
  refine wpAny_bind (wpAny_notOrdered_dict (hm0.typeIs (s := { s with heap := s.heap.push { cls := .type "dict", data := .dict #[] } })) ?_)
  show wpAny _ _ (pure (s.heap.objs.size, [Value.ref l])) _ _ _
  refine wpAny_pure ?_
  show wpAny _ _ (Builtin.Dict.updateFrom "dict.__init__" s.heap.objs.size (.ref l) [] .none) _ _ _
  unfold Builtin.Dict.updateFrom
  have hl1 : (s.heap.push { cls := .type "dict", data := .dict #[] }).get? l = some { cls := .type "list", dict := none, data := .seq xs.toArray k, slots := sl } := Heap.get?_push_of_some _ hl
  refine wpAny_bind (wpAny_typeOf (T := "list") ⟨_, hl1, rfl⟩ ?_)
  rw [if_pos (by decide)]
  refine wpAny_bind (keys_none (s := { s with heap := s.heap.push { cls := .type "dict", data := .dict #[] } }) hl1 hA fun h2 tk2 hk2 => ?_)
  rw [if_pos (show ((none : Option Value).isNone = true) from rfl)]
  refine wpAny_bind (wpAny_rule (wpAny_bind (wpAny_pyIter_list (items := xs.toArray) ⟨_, hk2 _ _ hl1, rfl, _, rfl⟩ ?_)))
  have hdl := Heap.lt_size hl
  have hne : h2.objs.size ≠ s.heap.objs.size := by
    intro e
    obtain ⟨o, es, ep, ho, r⟩ := hm0
    exact absurd (Heap.lt_size (hk2 _ _ ho)) (by show ¬ s.heap.objs.size < h2.objs.size; (first | lia | omega))
  have hlt2 : l < h2.objs.size := Heap.lt_size (hk2 _ _ hl1)
  refine wpAny_pure ⟨plainId_quiet plain_update_loop _, ?_⟩
  have hm2 : h2.IntMap s.heap.objs.size fun _ => none := by
    obtain ⟨o, es, ep, ho, r⟩ := hm0
    exact ⟨o, es, ep, hk2 _ _ ho, r⟩
  have hz2 : h2.DictLe s.heap.objs.size 0 := by
    obtain ⟨o, es, ep, ho, r1, r2, r3⟩ := id hm0
    exact hz0.of_same ho (hk2 _ _ ho)
  have hp2 : PairsAre (h2.push { cls := .type "list_iterator", data := .fields #[.ref l, .int 0 0] }) xs ks := hp.keeps fun b o ho _ => Heap.get?_push_of_some _ (hk2 _ _ (Heap.get?_push_of_some _ ho))
  refine update_loop (A := A.in1) (h₀ := h2.push { cls := .type "list_iterator", data := .fields #[.ref l, .int 0 0] }) (show A.in1.handled = none from hA) hn hle (Nat.ne_of_lt hlt2) (Nat.ne_of_lt hdl) (Ne.symm hne) hp2 _ 0 _ _ (fun _ => none) rfl (Nat.zero_le _) (fun b o _ _ h => h) ⟨_, Heap.get?_push_of_some _ (hk2 _ _ hl1), rfl, _, rfl⟩ ⟨_, Heap.get?_push_size _ rfl, rfl, rfl⟩ (hm2.push _) ?_ ?_ ?_ ?_ ?_
  · intro o es ep ho hd
    obtain ⟨o', es', ep', ho', r⟩ := id hm2
    rw [Heap.get?_push_of_some _ ho'] at ho
    cases ho
    exact hz2 _ _ _ ho' hd
  · exact fun x => ⟨fun h => by simp at h, fun _ => rfl⟩
  · intro o ho e
    obtain ⟨o', es', ep', ho', hc, r⟩ := id hm2
    rw [Heap.get?_push_of_some _ ho'] at ho
    cases ho
    rw [hc] at e; exact absurd e (by decide)
  · intro o ho e
    rw [Heap.get?_push_size _ rfl] at ho
    cases ho; simp at e
  · intro h3 tk3 f3 hk3 hm3 hw3
    refine ⟨rfl, h h3 tk3 f3 (fun b o ho => hk3 b o ?_ ?_ (Heap.get?_push_of_some _ (hk2 _ _ (Heap.get?_push_of_some _ ho)))) hm3 hw3⟩
    · exact Nat.ne_of_lt (Heap.lt_size ho)
    · exact Nat.ne_of_lt (Heap.lt_size (hk2 _ _ (Heap.get?_push_of_some _ ho)))
end
end Mine
end
section
open PySem.Spec
set_option maxRecDepth 100000
namespace Mine
section
variable {prog : Program} {w : World} {A : Around} {E : Value → Shared → Prop} {s : Shared} {env : Env} {h₀ : Heap} {x : Str} {body : List Stmt} {Q : Flow → Shared → Prop}
/-- the state behind a break, or behind the last turn -/
def LeftEnd (h₀ : Heap) (L : Addr) (K : (Str → Option Value) → List (Addr × Obj) → Prop) (s₁ s₂ : Shared) : Prop :=
  ∃ h' tk m' news', s₂ = { s₁ with heap := h', toks := tk } ∧ Fr h₀ L h' m' ∧ News h₀ L h' news' ∧ K m' news'
theorem LeftEnd.intro {L : Addr} {K : (Str → Option Value) → List (Addr × Obj) → Prop} {s₁ : Shared} {h' : Heap} {tk : Nat} {m' : Str → Option Value} {news' : List (Addr × Obj)} (F : Fr h₀ L h' m') (N : News h₀ L h' news') (k : K m' news') :
    LeftEnd h₀ L K s₁ { s₁ with heap := h', toks := tk } := ⟨h', tk, m', news', rfl, F, N, k⟩
/-- a turn of a loop with a break: what stands behind it -/
def BrkPost (h₀ : Heap) (L : Addr) (K J : (Str → Option Value) → List (Addr × Obj) → Prop) (own : List (Addr × Obj)) (adr : List Addr) (s₁ : Shared) (Q : Flow → Shared → Prop) (f : Flow) (s₂ : Shared) : Prop :=
  match f with
  | .ret v => Q (.ret v) s₂
  | .brk => LeftEnd h₀ L K s₁ s₂
  | _ => InvEndN h₀ L J own adr s₁ s₂
theorem iter_bytes_brk {m₀ : Str → Option Value} {b : Array UInt8} {tb : Tok} {ks : List Int} {news : List (Addr × Obj)} (J : Nat → (PySem.Str → Option Value) → List (Addr × Obj) → Prop) (K : (PySem.Str → Option Value) → List (Addr × Obj) → Prop)
    (hk : KBw.bInts b = ks) (hh : A.handled = none) (F : Fr h₀ env.locals s.heap m₀) (N : News h₀ env.locals s.heap news) (hj : J 0 m₀ news)
    (turn : ∀ i k t m₁ news₁ h tk own, ks[i]? = some k → 0 ≤ k → k < 256 → OwnOff own (news.map (·.1)) → J i m₁ news₁ → Fr h₀ env.locals h (fun y => if y = x then some (.int k t) else m₁ y) → News h₀ env.locals h (news₁ ++ own) →
      wpAny (model prog w) A (execs body env) (BrkPost h₀ env.locals K (J (i + 1)) own (news.map (·.1)) { s with heap := h, toks := tk } Q) E { s with heap := h, toks := tk })
    (out : ∀ m₁ news₁, J ks.length m₁ news₁ → K m₁ news₁)
    (done : ∀ m₁ news₁ h tk, K m₁ news₁ → Fr h₀ env.locals h m₁ → News h₀ env.locals h news₁ → Q .next { s with heap := h, toks := tk }) :
    wpAny (model prog w) A (pyIter (.bytes b tb)) (fun it s₂ => LoopAtV prog w A h₀ env x body Q E it s₂) E s := by
  refine KBmo.iter_bytesN J hk hh F N hj (fun i k t m₁ news₁ h tk own h1 h2 h3 h4 h5 h6 h7 => ?_) (fun m₁ news₁ h tk hJ F₁ N₁ => done m₁ news₁ h tk (out _ _ hJ) F₁ N₁)
  refine wpAny_mono (turn i k t m₁ news₁ h tk own h1 h2 h3 h4 h5 h6 h7) (fun fl s' hq => ?_) fun _ _ e => e
  cases fl with
  | brk =>
    obtain ⟨h', tk', m', news', rfl, F', N', k'⟩ := hq
    exact done _ _ _ _ k' F' N'
  | _ => exact hq
end
end Mine
end
section
set_option maxRecDepth 100000
namespace Mine
section
variable {prog : Program} {w : World} {A : Around} {E : Value → Shared → Prop} {s : Shared}
theorem in_worths {d : Addr} {f} {ks : List Int} {k : Int} {t : Tok} {Q : Value → Shared → Prop} (hm : s.heap.IntMap d f) (hw : WorthMap ks f)
    (h : Q (.bool (decide (k ∈ ks))) { s with toks := s.toks + 1 }) : wpAny (model prog w) A (compareOp .In (.int k t) (.ref d)) Q E s := by
  refine wpAny_in_intMap hm ?_
  have : (f k).isSome = decide (k ∈ ks) := by
    by_cases hk : k ∈ ks
    · obtain ⟨t', ht⟩ := (hw k).1 hk
      rw [ht]; simp [hk]
    · rw [(hw k).2 hk]; simp [hk]
  rw [this]; exact h
theorem IntMap.keeps {h h' : Heap} {a : Addr} {f} (m : h.IntMap a f) (k : ∀ b o, h.get? b = some o → h'.get? b = some o) : h'.IntMap a f :=
  let ⟨o, es, ep, ho, r⟩ := m; ⟨o, es, ep, k _ _ ho, r⟩
theorem notin_worths {d : Addr} {f} {ks : List Int} {k : Int} {t : Tok} {Q : Value → Shared → Prop} (hm : s.heap.IntMap d f) (hw : WorthMap ks f)
    (h : Q (.bool (!decide (k ∈ ks))) { s with toks := s.toks + 1 }) : wpAny (model prog w) A (compareOp .NotIn (.int k t) (.ref d)) Q E s := by
  have H := in_worths (prog := prog) (w := w) (A := A) (E := E) (t := t) (Q := fun v s' => ∃ b, v = .bool b ∧ Q (.bool !b) s') hm hw ⟨_, rfl, h⟩
  show wpAny _ _ (contains (.ref d) (.int k t) >>= fun r => pure (.bool !r)) Q E s
  have H2 : wpAny (model prog w) A ((contains (.ref d) (.int k t) >>= fun r => pure (Value.bool r)) : Sem Value) (fun v s' => ∃ b, v = Value.bool b ∧ Q (Value.bool !b) s') E s := H
  intro Γ p hΓ
  have H3 := H2 Γ p hΓ
  rw [Sem.wp_bind'] at H3 ⊢
  refine Sem.wp_mono _ Γ _ (fun a p' s' h' => ?_) (fun _ _ _ h' => h') p s H3
  obtain ⟨b, e, q⟩ := (h' : ∃ b, Value.bool a = Value.bool b ∧ Q (Value.bool !b) s')
  cases e
  exact q
theorem item_worths {d : Addr} {f} {ks : List Int} {k : Int} {t : Tok} {Q : Value → Shared → Prop} (hm : s.heap.IntMap d f) (hw : WorthMap ks f) (hk : k ∈ ks)
    {value slice : Expr} (h : ∀ t', Q (.int (ks.idxOf k) t') { s with toks := s.toks + 1 })
    (hs : subscripted slice false (.ref d) (.int k t) = operate [.ref d, .int k t] (getItem (.ref d) (.int k t))) (hg : ∀ r, letTemporaryGo value (.ref d) r = pure ()) :
    wpAny (model prog w) A (subscriptTail value slice (.ref d) (.int k t)) Q E s := by
  obtain ⟨t', ht⟩ := (hw k).1 hk
  exact subscriptTail_builtin hm.typeIs PySem.slot_dict_getitem.lookup (wpAny_getItem_intMap hm ht (h t')) hs hg
/-- the object of a worth table -/
def WorthObj (o : Obj) (f : Int → Option Value) : Prop := o.cls = .type "dict" ∧ ∃ es ep, o.data = .dict es ep ∧ IntKeys es ∧ ∀ k, findBy Value.isInt es k = f k
theorem WorthObj.at {h : Heap} {d : Addr} {o : Obj} {f} (x : WorthObj o f) (hg : h.get? d = some o) : h.IntMap d f := let ⟨hc, es, ep, r⟩ := x; ⟨o, es, ep, hg, hc, r⟩
theorem WorthObj.of {h : Heap} {d : Addr} {f} (x : h.IntMap d f) : ∃ o, h.get? d = some o ∧ WorthObj o f := let ⟨o, es, ep, hg, hc, r⟩ := x; ⟨o, hg, hc, es, ep, r⟩
end
end Mine
end
section
open Sem (wp)
open Builtin Builtin.ObjectAttr
set_option maxRecDepth 100000
namespace Mine
/-- what the program's own fault looks like on the heap -/
abbrev faultObj (t : Addr) (d : Option Addr) : Obj := { cls := .ref 59, dict := d, data := .fields #[.ref t, .none, .none, .none, .bool false, .none] }
section
variable {w : World} {A : Around} {R : Result → Shared → Prop} {E : Value → Shared → Prop} {s : Shared} {prog : Program}
theorem FX : ExcBaseFacts "Exception" "Exception.__new__" "Exception.__init__" [.type "Exception", .type "BaseException", .type "object"] := PySem.F.excBase_Exception
/-- the class of the program's own fault -/
abbrev faultCls : Obj := excClassObj "MimeFault" "MimeFault" 59 58 [.ref 46] [.ref 46, .type "Exception", .type "BaseException", .type "object"] true [] [] false none none (some (.ref 50)) none (some (.str (Str.ofString "MimeFault") 236)) (some (.str (Str.ofString "MimeFault") 244)) (some (.bool true)) "Exception.__new__"
theorem fault_cls {h : Heap} (X : (Mine.hd.heap_1_39 w.params).In h) : h.get? 59 = some faultCls := by
  have hp' : PySem.Challenge.rw_no0352_01.row.prog = PySem.Challenge.rw_no0352_01.row.prog := rfl
  revert X hp'; k_fill; intro X _
  exact X _ _ (by k_is)
theorem fault_init {h : Heap} {M : Model} (X : (Mine.hd.heap_1_39 w.params).In h) : Looks M h (typeLookup (.ref 59) "__init__") (some (.ref 36)) := by
  have hp' : PySem.Challenge.rw_no0352_01.row.prog = PySem.Challenge.rw_no0352_01.row.prog := rfl
  revert X hp'; k_fill; intro X _
  exact looks_findIn X (by k_is)
theorem init_check {M : Model} {e t : Addr} {d : Option Addr} {rest : List Value} {Q : Unit → Shared → Prop} (X : (Mine.hd.heap_1_39 w.params).In s.heap)
    (he : s.heap.get? e = some (faultObj t d)) (hq : Q () s) :
    wpAny M A (checkBuiltinCall "Exception.__init__" ⟨.ref e :: rest, []⟩) Q E s := by
  have F := FX
  have hC := fault_cls X
  have hshort := F.noStar
  obtain ⟨h, g, dr, tk, os⟩ := s
  simp only [checkBuiltinCall, F.initKind, F.initSplit, F.initRow]
  repeat (first | (with_reducible refine wpAny_loadPart_at he ?_) | (with_reducible refine wpAny_loadPart_at hC ?_) | (with_reducible refine wpAny_isSubtype_exc hC ?_; rw [show (Value.ref 59 :: [Value.ref 46, .type "Exception", .type "BaseException", .type "object"]).contains (.type "Exception") = true by decide]) | wp_step)
  refine wpAny_onRaise ?_
  rw [show ∀ (a b : String) (n : Nat), Bind.check ⟨.positional, "*", "Exception", .self, [⟨"args", .varPos, false⟩]⟩ a b n (List.map (fun x => x.fst) ({ pos := Value.ref e :: rest } : Args).kw) = pure () from
    fun a b n => check_star_args _ _ _ _ _ _]
  exact wpAny_pure hq
theorem exc_init {e t : Addr} {d : Option Addr} {a : List Value} {Q : Value → Shared → Prop} (X : (Mine.hd.heap_1_39 w.params).In s.heap) (hz : a.length ≤ 10)
    (he : s.heap.get? e = some (faultObj t d))
    (h : ∀ h', h'.get? e = some (faultObj s.heap.objs.size d) → h'.get? s.heap.objs.size = some { cls := .type "tuple", data := .seq a.toArray } → (∀ b o, b ≠ e → s.heap.get? b = some o → h'.get? b = some o) → Q .none { s with heap := h' }) :
    wpAny (model prog w) A (call (.builtin "Exception.__init__") (.ref e :: a)) Q E s := by
  have hlt := Heap.lt_size he
  refine wpAny_call (codeAny_call_builtin FX.init.plain FX.initEntry (init_check X he ?_))
  unfold Builtin.«BaseException.__init__»
  dsimp only
  rw [if_neg (by simp)]
  unfold newTuple Builtin.BaseException.bexcPut
  have he₁ := Heap.get?_push_of_some (h := s.heap) { cls := .type "tuple", data := .seq a.toArray } he
  refine wpAny_bind (wpAny_newObj_type (wpAny_bind (wpAny_bind (wpAny_field he₁ rfl rfl (wpAny_bind (wpAny_setField he₁ rfl (by show 0 < 6; decide) ?_))))) (by show a.toArray.size ≤ _; rw [sizeLine_eq]; simp; (first | lia | omega)))
  refine wpAny_letGo (wpAny_pure (h _ ?_ ?_ ?_))
  · rw [Heap.get?_update_self _ he₁ rfl]; rfl
  · rw [Heap.get?_update_other _ _ (Nat.ne_of_lt hlt)]
    exact Heap.get?_push_size _ rfl
  · intro b o hb ho
    rw [Heap.get?_update_other _ _ (Ne.symm hb)]
    exact Heap.get?_push_of_some _ ho
theorem fault_mro {h : Heap} {M : Model} (X : (Mine.hd.heap_1_39 w.params).In h) : Looks M h (mroOf (.ref 59)) [.ref 59, .ref 46, .type "Exception", .type "BaseException", .type "object"] := by
  have hp' : PySem.Challenge.rw_no0352_01.row.prog = PySem.Challenge.rw_no0352_01.row.prog := rfl
  revert X hp'; k_fill; intro X _
  exact (Looks.ld (part := none) (fault_cls X)).andThen .now
theorem fault_data {h : Heap} {M : Model} (X : (Mine.hd.heap_1_39 w.params).In h) : ∃ cd : ClassData, cd.hasDict = true ∧ Looks M h (classData 59) cd :=
  ⟨_, rfl, (Looks.ld (part := none) (fault_cls X)).andThen .now⟩
theorem fault_setattr {h : Heap} {M : Model} (X : (Mine.hd.heap_1_39 w.params).In h) : Looks M h (typeLookup (.ref 59) "__setattr__") (some (.builtin "object.__setattr__")) := by
  have hp' : PySem.Challenge.rw_no0352_01.row.prog = PySem.Challenge.rw_no0352_01.row.prog := rfl
  revert X hp'; k_fill; intro X _
  exact looks_findIn X (by k_is)
theorem fault_object {h : Heap} {M : Model} (X : (Mine.hd.heap_1_39 w.params).In h) : Looks M h (isSubtype (.ref 59) (.type "object")) true := by
  have hp' : PySem.Challenge.rw_no0352_01.row.prog = PySem.Challenge.rw_no0352_01.row.prog := rfl
  revert X hp'; k_fill; intro X _
  exact looks_mroIn X (by k_is)
theorem fault_type {h : Heap} {M : Model} {e t : Addr} {d : Option Addr} (he : h.get? e = some (faultObj t d)) : Looks M h (typeOf (.ref e)) (.ref 59) :=
  (Looks.ld he).andThen .now
theorem fault_osa {e t : Addr} {d : Option Addr} {name : Str} {tk : Tok} {v : Value} (X : (Mine.hd.heap_1_39 w.params).In s.heap) (he : s.heap.get? e = some (faultObj t d))
    (hn : Looks (model prog w) s.heap (typeLookup (.ref 59) name) none)
    (h : ∀ b, wpAny (model prog w) A.in1 (storeInOwnDict (.ref e) (.ref 59) (.str name tk) name v b)
      (fun fin s' => match fin with | .done f => R (.ok f) s' | .again c' => c'.quiet = true ∧ codeAny (model prog w) A c' R s') (fun e s' => R (.error e) s') s) :
    codeAny (model prog w) A (.call (.builtin "object.__setattr__") ⟨[.ref e, .str name tk, v], []⟩) R s := by
  have SF := PySem.F.store_Exception
  have L0 := fault_type (M := model prog w) he
  have hm := fault_mro (M := model prog w) X
  have sub : Looks (model prog w) s.heap (isInstance (.ref e) (.type "object")) true := L0.andThen (fault_object X)
  refine codeAny_call_builtin SF.slot.plain SF.entry (@check_slot (model prog w) _ _ s "object.__setattr__" "object" "__setattr__" (.ref e) [.str name tk, v] [] _ SF.kind SF.split sub (SF.args (.ref e) (.str name tk) v) ?_)
  rw [osa_eq, refuse_eq]
  refine wpAny_bind (wpAny_bind (L0.here (wpAny_bind (hm.here ?_))))
  rw [refuseLoop_ref, refuseLoop_ref, SF.passes]
  refine wpAny_pure (wpAny_bind (L0.here (wpAny_bind (hn.here (wpAny_bind (wpAny_pure ?_))))))
  exact h _
theorem fault_set {e t : Addr} {d : Option Addr} {name : Str} {v : Value} {Q : Unit → Shared → Prop} (X : (Mine.hd.heap_1_39 w.params).In s.heap) (he : s.heap.get? e = some (faultObj t d))
    (h : codeAny (model prog w) A (.call (.builtin "object.__setattr__") ⟨[.ref e, .str name s.toks, v], []⟩) (fun r s' => match r with | .ok (.ret _) => Q () s' | .ok _ => False | .error e => E e s') { s with toks := s.toks + 1 }) :
    wpAny (model prog w) A (setAttr (.ref e) name v) Q E s := by
  have L0 := fault_type (M := model prog w) he
  have hs := fault_setattr (M := model prog w) X
  refine wpAny_bind (wpAny_mkText (wpAny_bind (wpAny_bind (wpAny_bind (L0 _ _ _ _ (fun _ _ e => e) (hs _ _ _ _ (fun _ _ e => e) (wpAny_holding ?_)))))))
  rw [PySem.F.store_object.slot.bind]
  refine wpAny_bind (wpAny_pure (wpAny_bind (wpAny_call (codeAny_mono h fun r s' z => ?_))))
  rcases r with e | (v | _ | _ | _) <;> first | exact z | exact wpAny_pure (wpAny_pure z)
theorem fault_set_first {e t : Addr} {name : Str} {v : Value} {Q : Unit → Shared → Prop} (X : (Mine.hd.heap_1_39 w.params).In s.heap) (he : s.heap.get? e = some (faultObj t none))
    (hn : Looks (model prog w) s.heap (typeLookup (.ref 59) name) none)
    (h : ∀ h' d tk, h'.get? e = some (faultObj t (some d)) → s.heap.get? d = none → h'.Ns1 d (fun y => if y = name then some v else none) → (∀ b o, b ≠ e → s.heap.get? b = some o → h'.get? b = some o) → Q () { s with heap := h', toks := tk }) :
    wpAny (model prog w) A (setAttr (.ref e) name v) Q E s := by
  refine fault_set X he (fault_osa (s := { s with toks := s.toks + 1 }) X he hn fun b => ?_)
  obtain ⟨cd, hcd, L⟩ := fault_data (M := model prog w) X
  obtain ⟨hp, g, dr, tk, os⟩ := s
  have hxs : e ≠ hp.objs.size := Nat.ne_of_lt (Heap.lt_size he)
  refine wpAny_bind (wpAny_pure (wpAny_bind (wpAny_bind (wpAny_loadPart he (wpAny_bind (L.at ?_))))))
  rw [hcd]
  have hx₁ : (hp.push { cls := .type "dict", data := .dict #[] }).get? e = some (faultObj t none) := Heap.get?_push_of_some _ he
  rw [if_neg (by decide)]
  refine wpAny_bind (wpAny_alloc' ?_)
  refine wpAny_bind (wpAny_update' hx₁ ?_)
  refine wpAny_pure ?_
  have hgd : ((hp.push { cls := .type "dict", data := .dict #[] }).update e fun o => { cls := o.cls, dict := some hp.objs.size, data := o.data, slots := o.slots }).get? hp.objs.size
      = some { cls := .type "dict", data := .dict #[] } :=
    (Heap.get?_update_ne _ _ _ _ hxs.symm).trans (Heap.get?_push_at rfl rfl)
  have hnd : ((hp.push { cls := .type "dict", data := .dict #[] }).update e fun o => { cls := o.cls, dict := some hp.objs.size, data := o.data, slots := o.slots }).Ns hp.objs.size (fun _ => none) :=
    ⟨_, #[], _, hgd, rfl, fun e he => absurd he (by simp), fun _ => rfl⟩
  show wpAny _ _ (storeInDict hp.objs.size _ name v) _ _ _
  unfold storeInDict newKeyGuard
  refine wpAny_bind (wpAny_pure (wpAny_bind (wpAny_nsSet1 (Heap.Ns1.of_empty hnd) fun h' hn' hs => ?_)))
  obtain ⟨oD, esD, epD, hoD, hdD, hcD⟩ := hn'.count (Within.cons name v Within.nil)
  refine wpAny_bind (wpAny_lookBehind hoD (by rw [hdD]; exact pastItsLine_dict (Nat.le_trans hcD (by rw [List.length_cons, List.length_nil, sizeLine_eq]; (first | lia | omega)))) ?_)
  refine wpAny_pure ?_
  refine h h' hp.objs.size _ ?_ (Heap.get?_none_of_le (Nat.le_refl _)) hn' (fun b ob hbx hb => (hs.2 b (Nat.ne_of_lt (Heap.lt_size hb))).trans ((Heap.get?_update_ne _ _ _ _ hbx).trans (Heap.get?_push_of_some _ hb)))
  refine (hs.2 e hxs).trans (Heap.get?_update_self _ hx₁ rfl)
theorem fault_set_more {e t d : Addr} {name : Str} {v : Value} {mA : Str → Option Value} {ns : List Str} {Q : Unit → Shared → Prop} (X : (Mine.hd.heap_1_39 w.params).In s.heap) (he : s.heap.get? e = some (faultObj t (some d)))
    (hn : Looks (model prog w) s.heap (typeLookup (.ref 59) name) none) (hd : d ≠ e) (hns : s.heap.Ns1 d mA) (hw : Within mA ns) (hz : ns.length ≤ 100)
    (h : ∀ h' tk, h'.get? e = some (faultObj t (some d)) → h'.Ns1 d (fun y => if y = name then some v else mA y) → (∀ b o, b ≠ d → s.heap.get? b = some o → h'.get? b = some o) → Q () { s with heap := h', toks := tk }) :
    wpAny (model prog w) A (setAttr (.ref e) name v) Q E s := by
  refine fault_set X he (fault_osa (s := { s with toks := s.toks + 1 }) X he hn fun b => ?_)
  obtain ⟨cd, hcd, L⟩ := fault_data (M := model prog w) X
  obtain ⟨hp, g, dr, tk, os⟩ := s
  refine wpAny_bind (wpAny_pure (wpAny_bind (wpAny_bind (wpAny_loadPart he (wpAny_bind (L.at ?_))))))
  rw [hcd]
  refine wpAny_pure ?_
  show wpAny _ _ (storeInDict d _ name v) _ _ _
  unfold storeInDict newKeyGuard
  refine wpAny_bind (wpAny_pure (wpAny_bind (wpAny_nsSet1 hns fun h' hn' hs => ?_)))
  obtain ⟨oD, esD, epD, hoD, hdD, hcD⟩ := hn'.count (Within.cons name v hw)
  refine wpAny_bind (wpAny_lookBehind hoD (by rw [hdD]; exact pastItsLine_dict (Nat.le_trans hcD (by rw [List.length_cons, sizeLine_eq]; (first | lia | omega)))) ?_)
  refine wpAny_pure ?_
  exact h h' _ ((hs.2 e (Ne.symm hd)).trans he) hn' (fun b ob hbx hb => (hs.2 b hbx).trans hb)
end
end Mine
end
section
set_option maxRecDepth 100000
namespace Mine
theorem meta_exc : typeOf (.type "Exception") = pure (.type "type") := by kernel_rfl
theorem fault_what {w : World} {h : Heap} {M : Model} (X : (Mine.hd.heap_1_39 w.params).In h) : Looks M h (typeLookup (.ref 59) "what") none := by
  have hp' : PySem.Challenge.rw_no0352_01.row.prog = PySem.Challenge.rw_no0352_01.row.prog := rfl
  revert X hp'; k_fill; intro X _
  exact looks_findIn X (by k_is)
theorem fault_at {w : World} {h : Heap} {M : Model} (X : (Mine.hd.heap_1_39 w.params).In h) : Looks M h (typeLookup (.ref 59) "at") none := by
  have hp' : PySem.Challenge.rw_no0352_01.row.prog = PySem.Challenge.rw_no0352_01.row.prog := rfl
  revert X hp'; k_fill; intro X _
  exact looks_findIn X (by k_is)
theorem fr_ext {g h h' : Heap} {L e : Addr} {m : Str → Option Value} (F : Fr g L h m) (he : e ≠ L) (hg : g.get? e = none) (k : ∀ b o, b ≠ e → h.get? b = some o → h'.get? b = some o) : Fr g L h' m :=
  ⟨by obtain ⟨o, es, ep, ho, r⟩ := F.ns; exact ⟨o, es, ep, k _ _ (Ne.symm he) ho, r⟩, fun b o q => k _ _ (fun x => by rw [x, hg] at q; cases q) (F.keep b o q), F.above⟩
section
local macro_rules | `(tactic| walk_at "getMethod") => `(tactic| (k_here; (with_reducible show wpAny _ _ (getMethod (Value.type "Exception") _ _) _ _ _); refine' method_type ?F ?X ?m (by decide +kernel) ?e ?h ?_; (case F => k_asm); (case X => k_asm); (case m => exact meta_exc); (case e => k_dflt k_is); (case h => k_handed)))
set_option maxHeartbeats 4000000 in
theorem fault_init_spec {w : World} {mean : ExcName → Option Value} {mg mb : Str → Option Value} {dp un : Nat} {gd : Option (List Code)} {fr : Option (List Env)} {s : Shared} {E Q : Value → Shared → Prop}
    {what : Str} {at_ : Int} {tw ta : Tok} {e t : Addr} {g : Heap}
    (X : (Mine.hd.heap_1_39 w.params).In g) (T : Top Mine.hd.view_1_40 (looseW Mine.hd.view_1_40 [Str.ofString "PostError", Str.ofString "encoded"]) mean mg mb g) (hsz : g.objs.size ≤ s.heap.objs.size)
    (hk : ∀ b o, g.get? b = some o → s.heap.get? b = some o) (hge : g.get? e = none)
    (hdp : dp + 10 < recursionLimit) (hun : un + 100 < cLine)
    (he : s.heap.get? e = some (faultObj t none))
    (ret : ∀ h' tk' t' d m, (∀ b o, g.get? b = some o → h'.get? b = some o) → h'.get? e = some (faultObj t' (some d)) → g.get? t' = none → g.get? d = none → h'.Ns1 d m → m (Str.ofString "at") = some (.int at_ ta) → Q .none { s with heap := h', toks := tk' }) :
    wpAny (model PySem.Challenge.rw_no0352_01.row.prog w) (Ar dp un gd fr) (call (.ref 36) [.ref e, .str what tw, .int at_ ta]) Q E s := by
  revert X; k_fill; intro X
  have X1 := Frag.In.keeps X hk
  refine' enter (binds := [(Str.ofString "self", .ref e), (Str.ofString "what", .str what tw), (Str.ofString "at", .int at_ ta)]) X1 (T.keeps hk) ?k6 ?k7 ?k8 ?k9 ?kB ?_ ?c2 ?c3 ?c4 ?c5; (case k6 => k_is); (case k7 => k_is); (case k8 => (simp only [recursionLimit] at *; (first | lia | omega))); (case k9 => exact binds_K X1 rfl (by k_is) rfl rfl rfl); (case c5 => decide); (case kB => exact locs rfl); (case c2 => exact rfl); (case c3 => exact rfl); (case c4 => exact rfl)
  intro L' h1 F0 N0
  have heL : e ≠ L' := Nat.ne_of_lt (Nat.lt_of_lt_of_le (Heap.lt_size he) F0.above)
  have F' : Fr g L' h1 _ := ⟨F0.ns, fun b o q => F0.keep _ _ (hk b o q), Nat.le_trans hsz F0.above⟩
  have N' : News g L' h1 [(e, faultObj t none)] := fun p hp => by
    rw [List.mem_singleton.mp hp]
    exact ⟨F0.keep _ _ he, heL, hge⟩
  clear F0 N0 X1
  try dsimp only
  try k_fold
  k_steps
  refine exc_init (Frag.In.keeps X (Fr.keep (by assumption))) (by show 1 ≤ 10; decide) (News.get (by assumption) (.head _)) (fun h2 he2 ht2 hk2 => ?_)
  rename Fr _ _ _ _ => Fc
  have F2 := fr_ext Fc heL hge hk2
  have htn : g.get? _ = none := next_is_new Fc
  have N2 : News g L' h2 [(e, _)] := fun p hp => by
    rw [List.mem_singleton.mp hp]
    exact ⟨he2, heL, hge⟩
  try dsimp only
  try k_fold
  k_steps
  rename Fr _ _ _ _ => F3
  rename News _ _ _ _ => N3
  refine fault_set_first (Frag.In.keeps X F3.keep) (N3 _ (.head _)).1 (fault_what (Frag.In.keeps X F3.keep)) (fun h4 d tk4 he4 hd4 hns4 hk4 => ?_)
  have hgd : g.get? d = none := by
    cases q : g.get? d with
    | none => rfl
    | some o => have := F3.keep _ _ q; rw [hd4] at this; cases this
  have hdL : d ≠ L' := fun q => by
    obtain ⟨o, _, _, ho, _⟩ := F3.ns
    have hd4' : h2.get? d = none := hd4
    rw [q, ho] at hd4'; cases hd4'
  have hde : d ≠ e := fun q => by
    have hd4' : h2.get? d = none := hd4
    rw [q, he2] at hd4'; cases hd4'
  have F4 := fr_ext F3 heL hge hk4
  have N4 : News g L' h4 [(e, _)] := fun p hp => by
    rw [List.mem_singleton.mp hp]
    exact ⟨he4, heL, hge⟩
  clear F3 N3
  (try dsimp only)
  (try k_fold)
  k_steps
  rename Fr _ _ _ _ => F5
  rename News _ _ _ _ => N5
  refine fault_set_more (Frag.In.keeps X F5.keep) he4 (fault_at (Frag.In.keeps X F5.keep)) hde hns4 (Within.cons _ _ Within.nil) (by decide) (fun h6 tk6 he6 hns6 hk6 => ?_)
  have F6 := fr_ext F5 hdL hgd hk6
  have N6 : News g L' h6 [(e, _)] := fun p hp => by
    rw [List.mem_singleton.mp hp]
    exact ⟨he6, heL, hge⟩
  (try dsimp only)
  (try k_fold)
  k_steps
  rename Fr _ _ _ _ => F7
  exact ret _ _ _ d _ F7.keep he6 htn hgd hns6 rfl
end
end Mine
end
theorem Mine.quiet_C36 : True := by w_top off; trivial
section
open Sem (wp)
open Builtin Builtin.ObjectAttr
set_option maxRecDepth 100000
namespace Mine
section
variable {w : World} {A : Around} {R : Result → Shared → Prop} {E : Value → Shared → Prop} {prog : Program} {h : Heap} {g : Array GenState} {d : Drawn} {t : Nat} {os : OsState}
theorem fault_sub_exc {w : World} {h : Heap} {M : Model} (X : (Mine.hd.heap_1_39 w.params).In h) (T : String) (e : mroIn (Mine.hd.heap_1_39 w.params) 59 (.type T) = some true) : Looks M h (isSubtype (.ref 59) (.type T)) true := looks_mroIn X e
theorem fault_check_new {M : Model} {rest : List Value} {Q : Unit → Shared → Prop} (X : (Mine.hd.heap_1_39 w.params).In h)
    (hq : Q () ⟨h, g, d, t, os⟩) : wpAny M A (checkBuiltinCall "Exception.__new__" ⟨.ref 59 :: rest, []⟩) Q E ⟨h, g, d, t, os⟩ := by
  have F := FX
  have hC := fault_cls X
  have hcont : (Value.ref 59 :: [Value.ref 46, .type "Exception", .type "BaseException", .type "object"]).contains (.type "Exception") = true := by decide
  have hstar := F.noStar
  simp only [checkBuiltinCall, F.newKind, F.newSplit, F.newRow]
  repeat (first | refine wpAny_loadPart_at hC ?_ | (refine wpAny_isSubtype_exc hC ?_; rw [hcont]) | refine wpAny_staticBase_exc hC ?_ | refine wpAny_madeBy_exc hC ?_ | simp only [bne_self_eq_false, Bool.false_eq_true, if_false] | wp_step)
  exact hq
theorem fault_new {rest : List Value} (X : (Mine.hd.heap_1_39 w.params).In h)
    (hq : R (.ok (.ret (.ref (h.objs.size + 1)))) ⟨(h.push { cls := .type "tuple", data := .seq rest.toArray }).push (faultObj h.objs.size none), g, d, t, os⟩) (hrest : rest.length ≤ sizeLine) :
    codeAny (model prog w) A (.builtin "Exception.__new__" ⟨.ref 59 :: rest, []⟩) R ⟨h, g, d, t, os⟩ := by
  have F := FX
  have hC := fault_cls X
  have hends := F.ends
  have hcB : (Value.ref 59 :: [Value.ref 46, .type "Exception", .type "BaseException", .type "object"]).contains (.type "Exception") = true := by decide
  have hcA : (Value.ref 59 :: [Value.ref 46, .type "Exception", .type "BaseException", .type "object"]).contains (.type "AttributeError") = false := by decide
  have hcN : (Value.ref 59 :: [Value.ref 46, .type "Exception", .type "BaseException", .type "object"]).contains (.type "NameError") = false := by decide
  refine codeAny_builtinAt F.entry ?_
  unfold Builtin.«BaseException.__new__»
  refine PySem.wpAt_bind ?_
  show PySem.wpAt _ _ _ (stack >>= _) _ _ _
  refine PySem.wpAt_bind (PySem.wpAt_stack fun p below => PySem.wpAt_of_wpAny ?_)
  wp_walk
  refine PySem.wpAt_of_wpAny ?_
  rw [F.owner]
  repeat (first | with_reducible refine wpAny_madeHere_exc F.canon hC ?_ | with_reducible refine wpAny_loadPart_at hC ?_ | (with_reducible refine wpAny_isSubtype_exc hC ?_; first | rw [hcB] | rw [hcA] | rw [hcN]) | wp_step)
  show R _ _
  rw [Heap.size_push]
  exact hq
theorem fault_call {rest : List Value} {oI : Obj} {Q : Value → Shared → Prop} (X : (Mine.hd.heap_1_39 w.params).In h) (hfI : h.get? 36 = some oI) (hfc : oI.cls = .type "function") (hrest : rest.length ≤ sizeLine)
    (hq : ∀ h' e t0, (∀ b o, h.get? b = some o → h'.get? b = some o) → h.get? e = none → h.objs.size ≤ h'.objs.size → h'.get? e = some (faultObj t0 none) →
      wpAny (model prog w) (A.under (.builtin "type.__call__" ⟨.ref 59 :: rest, []⟩)) (call (.ref 36) (.ref e :: rest)) (fun r s' => r = .none ∧ Q (.ref e) s') E ⟨h', g, d, t, os⟩) :
    wpAny (model prog w) A (call (.ref 59) rest) Q E ⟨h, g, d, t, os⟩ := by
  have F := FX
  have hC := fault_cls X
  have f1 := tc_lookup
  have f2 := tc_bind (.ref 59)
  have hT : (⟨h, g, d, t, os⟩ : Shared).TypeIs (.ref 59) "type" := ⟨_, hC, rfl⟩
  refine wpAny_call (codeAny_of_tree ?_)
  show wpAny _ _ (callAny (.ref 59) _) _ _ _
  repeat (any_goals (first | assumption | with_reducible refine wpAny_loadPart_at hC ?_ | wp_step))
  refine ⟨rfl, ?_⟩
  refine codeAny_call_builtin_at (Code.quiet_builtin _ (by decide +kernel)) entry_typeCall (wpAny_check_type_call_sub hC ?_)
  repeat (first | with_reducible refine wpAny_loadPart_at hC ?_ | with_reducible refine wpAny_madeBy_exc hC ?_ | wp_step)
  refine codeAny_call_builtin_code (Code.quiet_builtin _ F.quiet) (fault_check_new X ?_)
  refine fault_new X ?_ hrest
  show wpAny _ _ _ _ _ _
  have hk : ∀ b o, h.get? b = some o → ((h.push { cls := .type "tuple", data := .seq rest.toArray }).push (faultObj h.objs.size none)).get? b = some o := fun b o e => Heap.get?_push_of_some _ (Heap.get?_push_of_some _ e)
  have hC₁ := hk _ _ hC
  have hfI₁ := hk _ _ hfI
  have hget : ((h.push { cls := .type "tuple", data := .seq rest.toArray }).push (faultObj h.objs.size none)).get? (h.objs.size + 1) = some { cls := .ref 59, data := .fields #[.ref h.objs.size, .none, .none, .none, .bool false, .none] } := by heap_get
  have hcC : (Value.ref 59 :: [Value.ref 46, .type "Exception", .type "BaseException", .type "object"]).contains (.ref 59) = true := by decide
  have hL := fault_init (M := model prog w) (X.keeps hk)
  unfold isInstance
  repeat (first | with_reducible refine wpAny_loadPart_at hget ?_ | (with_reducible refine wpAny_isSubtype_exc hC₁ ?_; rw [hcC]) | wp_step)
  refine wpAny_isSubtype_exc (C := 59) hC₁ ?_
  rw [hcC]
  repeat (first | with_reducible refine wpAny_loadPart_at hget ?_ | wp_step)
  show wpAny _ _ (typeLookup (.ref 59) _) _ _ _
  refine hL.at ?_
  refine wpAny_holding (wpAny_bind ?_)
  unfold bindSpecial
  refine wpAny_bind (wpAny_typeOf (T := "function") ⟨_, hfI₁, hfc⟩ ?_)
  rw [if_pos (by decide)]
  refine wpAny_pure (wpAny_bind (wpAny_mono (hq _ (h.objs.size + 1) h.objs.size hk (Heap.get?_none_of_le (Nat.le_succ _)) (by simp only [Heap.size_push]; (first | lia | omega)) hget) (fun r s' hr => ?_) fun _ _ x => x))
  obtain ⟨rfl, hQ⟩ := hr
  wp_walk
  exact hQ
end
theorem fault_spec {w : World} {mean : ExcName → Option Value} {mg mb : Str → Option Value} {dp un : Nat} {gd : Option (List Code)} {fr : List Env} {s : Shared} {E Q : Value → Shared → Prop}
    {what : Str} {at_ : Int} {tw ta : Tok}
    (X : (Mine.hd.heap_1_39 w.params).In s.heap) (T : Top Mine.hd.view_1_40 (looseW Mine.hd.view_1_40 [Str.ofString "PostError", Str.ofString "encoded"]) mean mg mb s.heap)
    (hdp : dp + 20 < recursionLimit) (hun : un + 200 < cLine)
    (ret : ∀ h' tk' e t' d m, (∀ b o, s.heap.get? b = some o → h'.get? b = some o) → s.heap.get? e = none → h'.get? e = some (faultObj t' (some d)) → s.heap.get? t' = none → s.heap.get? d = none → h'.Ns1 d m → m (Str.ofString "at") = some (.int at_ ta) → Q (.ref e) { s with heap := h', toks := tk' }) :
    wpAny (model PySem.Challenge.rw_no0352_01.row.prog w) (Ar dp un gd (some fr)) (call (.ref 59) [.str what tw, .int at_ ta]) Q E s := by
  have hf : ∃ oI : Obj, s.heap.get? 36 = some oI ∧ oI.cls = .type "function" := by
    have hp' : PySem.Challenge.rw_no0352_01.row.prog = PySem.Challenge.rw_no0352_01.row.prog := rfl
    revert X hp'; k_fill; intro X _
    exact ⟨_, X _ _ (by k_is), rfl⟩
  obtain ⟨oI, hfI, hfc⟩ := hf
  obtain ⟨hp, g, d, tk, os⟩ := s
  refine fault_call X hfI hfc (by show 2 ≤ _; rw [sizeLine_eq]; (first | lia | omega)) (fun h' e t0 hk hge hsz he => ?_)
  refine fault_init_spec (s := ⟨h', g, d, tk, os⟩) (dp := dp + 1) (un := _) (gd := _) (fr := _) X T hsz hk hge (by simp only [recursionLimit] at *; (first | lia | omega)) ?_ he (fun h2 tk2 t2 d2 m2 k1 k2 k3 k4 k5 k6 => ⟨rfl, ret _ _ e t2 d2 m2 k1 hge k2 k3 k4 k5 k6⟩)
  have := cLine_is
  show un + 1 + 100 < _
  (first | lia | omega)
end Mine
end
section
open Sem (wp)
set_option maxRecDepth 100000
namespace Mine
/-- every object that is no record stands, up to its slots -/
def SlotsKept (h h' : Heap) : Prop := ∀ b o, h.get? b = some o → (∀ vs, o.data ≠ .fields vs) → ∃ sl, h'.get? b = some { o with slots := sl }
theorem SlotsKept.trans {a b c : Heap} (x : SlotsKept a b) (y : SlotsKept b c) : SlotsKept a c := fun p o e hn =>
  let ⟨_, e₁⟩ := x p o e hn; let ⟨sl, e₂⟩ := y p _ e₁ hn; ⟨sl, e₂⟩
theorem SlotsKept.of_keeps {h h' : Heap} (k : ∀ b o, h.get? b = some o → h'.get? b = some o) : SlotsKept h h' := fun b o e _ => ⟨o.slots, k b o e⟩
theorem SlotsKept.up {h h' : Heap} (x : SlotsKept h h') : h.UpToSlots h' := x
/-- the fault e, whose own dict is d, has a traceback with the mark fl -/
def Trac (base h : Heap) (e d : Addr) (fl : Value) : Prop :=
  ∃ oe vs T oT ts, h.get? e = some oe ∧ oe.cls = .ref 59 ∧ oe.dict = some d ∧ oe.data = .fields vs ∧ vs[1]? = some (.ref T) ∧ base.get? T = none ∧ T ≠ e ∧ h.get? T = some oT ∧ oT.data = .fields ts ∧ ts[3]? = some fl
section
variable {M : Model} {A : Around} {E : Value → Shared → Prop} {s : Shared}
theorem entry_made {base : Heap} {env : Env} {outer : List Env} {L e d : Addr} {oe : Obj} {vs : Array Value} {head : Value} {hadNext : Bool} {Q : Unit → Shared → Prop}
    (hfr : A.frames = some (env :: outer)) (hl : s.heap.FunFrames base (env :: outer)) (hf : env.frame = some L)
    (he : s.heap.get? e = some oe) (hkb : base.StaysIn s.heap) (hen : base.get? e = none) (hc : oe.cls = .ref 59) (hdi : oe.dict = some d) (hd : oe.data = .fields vs) (hsz : 1 < vs.size)
    (h : ∀ h', base.StaysIn h' → h'.FunFrames base (env :: outer) → Trac base h' e d (rawInt L) → SlotsKept s.heap h' → Q () { s with heap := h' }) :
    wpAny M A (do let a ← frameOf env; let pl ← entryPlaceOf L hadNext; let b ← EntryCells.newEntry head a .none (rawInt L) .none pl; setField (.ref e) 1 b) Q E s := by
  have hene : e ∉ (env :: outer).filterMap (·.frame) := fun hm => by
    obtain ⟨_, o, ho, hnf⟩ := hl.mem hm
    rw [he] at ho; cases ho; exact hnf vs hd
  refine wpAny_bind (wpAny_frameOf_fun hfr hl hf fun h₁ hs₁ => ?_)
  refine wpAny_bind (wpAny_entryPlaceOf fun pl hpl => ?_)
  unfold EntryCells.newEntry newFields
  refine wpAny_bind (wpAny_newObj_type ?_ (hpl.sizeOk5 _ _ _ _ _))
  have he₁ : h₁.get? e = some oe := (hs₁.2.1 e hene).trans he
  have kb₁ : base.StaysIn h₁ := fun b o hbo => (hs₁.2.1 b fun hm => by rw [(hl.mem hm).1] at hbo; cases hbo).trans (hkb b o hbo)
  have hTe : h₁.objs.size ≠ e := Nat.ne_of_gt (Heap.lt_size he₁)
  generalize hTo : ({ cls := .type "traceback", dict := none, data := .fields ([head, .ref L, .none, rawInt L, .none] ++ (if pl.isEmpty then List.replicate 6 Value.none else pl)).toArray } : Obj) = oT
  have hTd : oT.data = .fields ([head, .ref L, .none, rawInt L, .none] ++ (if pl.isEmpty then List.replicate 6 Value.none else pl)).toArray := by rw [← hTo]
  have hTf : oT.isFreed = false := Obj.isFreed_of_fields hTd
  have he₂ := Heap.get?_push_of_some (h := h₁) oT he₁
  have hd₃ := Obj.data_mapFields hd (·.setIfInBounds 1 (Value.ref h₁.objs.size))
  have he₃ := Heap.get?_update_self (Obj.mapFields (·.setIfInBounds 1 (Value.ref h₁.objs.size))) he₂ (Obj.isFreed_of_fields hd₃)
  have hT₃ := (Heap.get?_update_other (h₁.push oT) (Obj.mapFields (·.setIfInBounds 1 (Value.ref h₁.objs.size))) (Ne.symm hTe)).trans (Heap.get?_push_size h₁ hTf)
  have keep : ∀ b o, b ≠ e → h₁.get? b = some o → ((h₁.push oT).update e (Obj.mapFields (·.setIfInBounds 1 (Value.ref h₁.objs.size)))).get? b = some o :=
    fun b o hbe hb => by
      rw [Heap.get?_update_other _ _ (Ne.symm hbe)]
      exact Heap.get?_push_of_some _ hb
  have noRecord : ∀ b o, s.heap.get? b = some o → (∀ vs, o.data ≠ .fields vs) → b ≠ e := fun b o hb hnf q => by
    rw [q, he] at hb; cases hb; exact hnf vs hd
  refine wpAny_setField he₂ hd hsz (h _ ?_ (hl.of_keeps fun b o hb hnf => ?_) ?_ fun b o hb hnf => ?_)
  · exact fun b o hbo => keep b o (fun q => by rw [q, hen] at hbo; cases hbo) (kb₁ b o hbo)
  · obtain ⟨sl, hs⟩ := hs₁.2.2 b o hb
    exact ⟨_, keep b _ (noRecord b o hb hnf) hs, rfl⟩
  · refine ⟨_, _, h₁.objs.size, _, _, he₃, (Obj.cls_mapFields _ _).trans hc, ?_, hd₃, by simp [hsz], kb₁.fresh, hTe, hT₃, hTd, ?_⟩
    · obtain ⟨oc, od, oda, osl⟩ := oe
      cases hd
      exact hdi
    · first | (simp; done) | (rcases hpl with rfl | ⟨_, _, _, _, _, _, _, rfl⟩ <;> simp)
  · obtain ⟨sl, hs⟩ := hs₁.2.2 b o hb
    exact ⟨sl, keep b _ (noRecord b o hb hnf) hs⟩
/-- the mark is taken off -/
theorem mark_off {base : Heap} {l : List Env} {e d : Addr} {fl : Value} {Q : Unit → Shared → Prop} (hkb : base.StaysIn s.heap) (hl : s.heap.FunFrames base l) (ht : Trac base s.heap e d fl)
    (h : ∀ h', base.StaysIn h' → h'.FunFrames base l → Trac base h' e d .none → SlotsKept s.heap h' → Q () { s with heap := h' }) : wpAny M A (setFlight (.ref e) none) Q E s := by
  obtain ⟨oe, vs, T, oT, ts, he, hc, hdi, hd, h1, hnT, hTe, hT, hdT, h3⟩ := ht
  have hsz3 : 3 < ts.size := (Array.getElem?_eq_some_iff.mp h3).1
  have other : ∀ b, b ≠ T → (s.heap.update T (Obj.mapFields (·.setIfInBounds 3 ((none : Option Addr).elim Value.none fun f => rawInt f)))).get? b = s.heap.get? b :=
    fun b hb => Heap.get?_update_other _ _ (Ne.symm hb)
  have noRecord : ∀ b o, s.heap.get? b = some o → (∀ vs, o.data ≠ .fields vs) → b ≠ T := fun b o hb hnf q => by
    rw [q, hT] at hb; cases hb; exact hnf ts hdT
  unfold setFlight
  refine wpAny_bind (wpAny_field he hd h1 ?_)
  rw [if_pos (show (Value.ref T != Value.none) = true from by simp)]
  refine wpAny_setField hT hdT hsz3 (h _ (fun b o hbo => (other b fun q => by rw [q, hnT] at hbo; cases hbo).trans (hkb b o hbo))
    (hl.of_keeps fun b o hb hnf => ⟨o, (other b (noRecord b o hb hnf)).trans hb, rfl⟩) ?_ fun b o hb hnf => ⟨o.slots, (other b (noRecord b o hb hnf)).trans hb⟩)
  exact ⟨oe, vs, T, _, _, (other e (Ne.symm hTe)).trans he, hc, hdi, hd, h1, hnT, hTe, Heap.get?_update_self _ hT (Obj.isFreed_of_fields (Obj.data_mapFields hdT _)), Obj.data_mapFields hdT _, by simp [hsz3]⟩
/-- the frame is noted in a fresh fault -/
theorem note_first {base : Heap} {env : Env} {outer : List Env} {L e d : Addr} {oe : Obj} {vs : Array Value} {Q : Unit → Shared → Prop}
    (hfr : A.frames = some (env :: outer)) (hl : s.heap.FunFrames base (env :: outer)) (hf : env.frame = some L)
    (he : s.heap.get? e = some oe) (hkb : base.StaysIn s.heap) (hen : base.get? e = none) (hc : oe.cls = .ref 59) (hdi : oe.dict = some d) (hd : oe.data = .fields vs) (h1 : vs[1]? = some .none)
    (h : ∀ h', base.StaysIn h' → h'.FunFrames base (env :: outer) → Trac base h' e d (rawInt L) → SlotsKept s.heap h' → Q () { s with heap := h' }) : wpAny M A (noteFrame (.ref e) env) Q E s := by
  unfold noteFrame
  simp only [hf]
  refine wpAny_bind (wpAny_field he hd h1 ?_)
  rw [if_neg (by decide)]
  exact entry_made hfr hl hf he hkb hen hc hdi hd (Array.getElem?_eq_some_iff.mp h1).1 h
/-- the frame is noted in a fault that comes from another, whatever its mark -/
theorem note_next {base : Heap} {env : Env} {outer : List Env} {L e d : Addr} {fl : Value} {Q : Unit → Shared → Prop}
    (hfr : A.frames = some (env :: outer)) (hl : s.heap.FunFrames base (env :: outer)) (hf : env.frame = some L) (ht : Trac base s.heap e d fl) (hkb : base.StaysIn s.heap) (hen : base.get? e = none)
    (h : ∀ h' fl', base.StaysIn h' → h'.FunFrames base (env :: outer) → Trac base h' e d fl' → SlotsKept s.heap h' → Q () { s with heap := h' }) : wpAny M A (noteFrame (.ref e) env) Q E s := by
  obtain ⟨oe, vs, T, oT, ts, he, hc, hdi, hd, h1, hnT, hTe, hT, hdT, h3⟩ := id ht
  unfold noteFrame
  simp only [hf]
  refine wpAny_bind (wpAny_field he hd h1 ?_)
  rw [if_pos (show (Value.ref T != Value.none) = true from by simp)]
  refine wpAny_bind (wpAny_field hT hdT h3 ?_)
  by_cases hfl : (fl == rawInt L) = true
  · rw [if_pos hfl]
    exact wpAny_pure (h s.heap fl hkb hl ht (.of_keeps fun _ _ e => e))
  rw [if_neg hfl]
  refine wpAny_bind (wpAny_setField hT hdT (Array.getElem?_eq_some_iff.mp h3).1 ?_)
  have other : ∀ b, b ≠ T → (s.heap.update T (Obj.mapFields (·.setIfInBounds 3 Value.none))).get? b = s.heap.get? b := fun b hb => Heap.get?_update_other _ _ (Ne.symm hb)
  have noRecord : ∀ b o, s.heap.get? b = some o → (∀ vs, o.data ≠ .fields vs) → b ≠ T := fun b o hb hnf q => by
    rw [q, hT] at hb; cases hb; exact hnf ts hdT
  refine entry_made (s := { s with heap := _ }) hfr (hl.of_keeps fun b o hb hnf => ⟨o, (other b (noRecord b o hb hnf)).trans hb, rfl⟩) hf ((other e (Ne.symm hTe)).trans he)
    (fun b o hbo => (other b fun q => by rw [q, hnT] at hbo; cases hbo).trans (hkb b o hbo)) hen hc hdi hd (Array.getElem?_eq_some_iff.mp h1).1
    fun h' x1 x2 x3 x4 => h h' _ x1 x2 x3 fun b o hb hnf => x4 b o ((other b (noRecord b o hb hnf)).trans hb) hnf
/-- the mark is set anew and the fault goes on -/
theorem pass_on {α : Type} {base : Heap} {l : List Env} {e d : Addr} {fl : Value} {what : String} {env : Env} {Q : α → Shared → Prop} (hkb : base.StaysIn s.heap) (hl : s.heap.FunFrames base l) (ht : Trac base s.heap e d fl)
    (h : ∀ h' fl', base.StaysIn h' → h'.FunFrames base l → Trac base h' e d fl' → SlotsKept s.heap h' → E (.ref e) { s with heap := h' }) : wpAny M A (PySem.passOn what (.ref e) env : Sem α) Q E s := by
  obtain ⟨oe, vs, T, oT, ts, he, hc, hdi, hd, h1, hnT, hTe, hT, hdT, h3⟩ := ht
  have hsz3 : 3 < ts.size := (Array.getElem?_eq_some_iff.mp h3).1
  have other : ∀ b, b ≠ T → (s.heap.update T (Obj.mapFields (·.setIfInBounds 3 (env.frame.elim Value.none fun f => rawInt f)))).get? b = s.heap.get? b :=
    fun b hb => Heap.get?_update_other _ _ (Ne.symm hb)
  have noRecord : ∀ b o, s.heap.get? b = some o → (∀ vs, o.data ≠ .fields vs) → b ≠ T := fun b o hb hnf q => by
    rw [q, hT] at hb; cases hb; exact hnf ts hdT
  unfold PySem.passOn setFlight
  refine wpAny_bind (wpAny_field he hd h1 ?_)
  rw [if_neg (show ¬ (Value.ref T == Value.none) = true from by simp)]
  refine wpAny_bind (wpAny_bind (wpAny_field he hd h1 ?_))
  rw [if_pos (show (Value.ref T != Value.none) = true from by simp)]
  refine wpAny_setField hT hdT hsz3 (wpAny_throw (h _ (env.frame.elim Value.none fun f => rawInt f) (fun b o hbo => (other b fun q => by rw [q, hnT] at hbo; cases hbo).trans (hkb b o hbo))
    (hl.of_keeps fun b o hb hnf => ⟨o, (other b (noRecord b o hb hnf)).trans hb, rfl⟩) ?_ fun b o hb hnf => ⟨o.slots, (other b (noRecord b o hb hnf)).trans hb⟩))
  exact ⟨oe, vs, T, _, _, (other e (Ne.symm hTe)).trans he, hc, hdi, hd, h1, hnT, hTe, Heap.get?_update_self _ hT (Obj.isFreed_of_fields (Obj.data_mapFields hdT _)), Obj.data_mapFields hdT _, by simp [hsz3]⟩
theorem leave_first {base : Heap} {env : Env} {outer : List Env} {L e d : Addr} {oe : Obj} {vs : Array Value} {Q : Unit → Shared → Prop}
    (hfr : A.frames = some (env :: outer)) (hl : s.heap.FunFrames base (env :: outer)) (hf : env.frame = some L)
    (he : s.heap.get? e = some oe) (hkb : base.StaysIn s.heap) (hen : base.get? e = none) (hc : oe.cls = .ref 59) (hdi : oe.dict = some d) (hd : oe.data = .fields vs) (h1 : vs[1]? = some .none)
    (h : ∀ h', base.StaysIn h' → h'.FunFrames base (env :: outer) → Trac base h' e d .none → SlotsKept s.heap h' → Q () { s with heap := h' }) : wpAny M A (leaving env (.ref e)) Q E s := by
  unfold leaving
  refine wpAny_bind (note_first hfr hl hf he hkb hen hc hdi hd h1 fun h₁ a1 a2 a3 a4 => ?_)
  exact mark_off a1 a2 a3 fun h₂ b1 b2 b3 b4 => h h₂ b1 b2 b3 (a4.trans b4)
theorem leave_next {base : Heap} {env : Env} {outer : List Env} {L e d : Addr} {fl : Value} {Q : Unit → Shared → Prop}
    (hfr : A.frames = some (env :: outer)) (hl : s.heap.FunFrames base (env :: outer)) (hf : env.frame = some L) (ht : Trac base s.heap e d fl) (hkb : base.StaysIn s.heap) (hen : base.get? e = none)
    (h : ∀ h', base.StaysIn h' → h'.FunFrames base (env :: outer) → Trac base h' e d .none → SlotsKept s.heap h' → Q () { s with heap := h' }) : wpAny M A (leaving env (.ref e)) Q E s := by
  unfold leaving
  refine wpAny_bind (note_next hfr hl hf ht hkb hen fun h₁ fl' a1 a2 a3 a4 => ?_)
  exact mark_off a1 a2 a3 fun h₂ b1 b2 b3 b4 => h h₂ b1 b2 b3 (a4.trans b4)
end
end Mine
end
section
open Sem (wp)
set_option maxRecDepth 100000
namespace Mine
/-- the fault e, with the place at, is in flight above the frames l -/
def Flown (base : Heap) (l : List Env) (e : Addr) (at_ : Int) (h : Heap) : Prop :=
  base.StaysIn h ∧ base.get? e = none ∧ h.FunFrames base l ∧ ∃ d m ta fl, Trac base h e d fl ∧ (base.get? d = none ∧ d ∉ l.filterMap (·.frame)) ∧ h.Ns d m ∧ m (Str.ofString "at") = some (.int at_ ta)
/-- what stands behind an error in a def's body -/
def Leaves (M : Model) (A : Around) (env : Env) (E : Value → Shared → Prop) (v : Value) (s' : Shared) : Prop := wpAny M A (leaving env v) (fun _ s'' => E v s'') E s'
section
variable {M : Model} {A : Around} {E : Value → Shared → Prop} {s' : Shared} {base g h : Heap} {outer : List Env} {L a e t d : Addr} {m mm : Str → Option Value} {name : Str} {scope : Scope} {cd : Value} {at_ : Int} {ta : Tok}
theorem below_push {env : Env} (K : Below A base outer g) (F : Fr g L h m) (hf : env.frame = some L) (hk : env.scope.kind = .function) : Below (A.deeper env) base (env :: outer) h where
  stack := Around.frames_deeper K.stack
  stays := fun b o q => F.keep b o (K.stays b o q)
  frames := Heap.FunFrames.cons (by rw [hk]; decide) hf F.ns (fresh_of_stays K.stays (Heap.get?_none_of_le F.above)) (K.frames.of_keeps fun b o q _ => ⟨o, F.keep b o q, rfl⟩)
theorem fault_leaves {env : Env} (K : Below A base outer g) (F : Fr g L h m) (hkeep : ∀ b o, h.get? b = some o → s'.heap.get? b = some o) (hn : h.get? e = none) (he : s'.heap.get? e = some (faultObj t (some d)))
    (hdn : h.get? d = none) (hns : s'.heap.Ns d mm) (hat : mm (Str.ofString "at") = some (.int at_ ta)) (hf : env.frame = some L) (hk : env.scope.kind = .function)
    (hQ : ∀ h', Flown base outer e at_ h' → SlotsKept g h' → E (.ref e) { s' with heap := h' }) :
    Leaves M (A.deeper env) env E (.ref e) s' := by
  have K' := below_push K F hf hk
  have hfr : s'.heap.FunFrames base (env :: outer) := K'.frames.of_keeps fun b o q _ => ⟨o, hkeep b o q, rfl⟩
  refine leave_first (Around.frames_deeper K.stack) hfr hf he (fun b o q => hkeep b o (K'.stays b o q)) (fresh_of_stays K'.stays hn) rfl rfl rfl rfl fun h' x1 x2 x3 x4 => ?_
  refine hQ h' ⟨x1, fresh_of_stays K'.stays hn, x2.2.2, d, mm, ta, _, x3, ⟨fresh_of_stays K'.stays hdn, fun hm => by obtain ⟨_, o, ho, _⟩ := Heap.FunFrames.mem K'.frames.2.2 hm; rw [hdn] at ho; cases ho⟩, x4.up.ns hns, hat⟩ ?_
  exact ((SlotsKept.of_keeps F.keep).trans (SlotsKept.of_keeps hkeep)).trans x4
theorem flown_leaves {env : Env} (K : Below A base outer g) (R : Flown base (env :: outer) e at_ s'.heap) (hs : SlotsKept g s'.heap) (hf : env.frame = some L)
    (hQ : ∀ h', Flown base outer e at_ h' → SlotsKept g h' → E (.ref e) { s' with heap := h' }) :
    Leaves M (A.deeper env) env E (.ref e) s' := by
  obtain ⟨r1, r2, r3, d, m, ta, fl, r4, rd, r5, r6⟩ := R
  refine leave_next (Around.frames_deeper K.stack) r3 hf r4 r1 r2 fun h' x1 x2 x3 x4 => ?_
  exact hQ h' ⟨x1, r2, x2.2.2, d, m, ta, _, x3, ⟨rd.1, fun hm => rd.2 (by obtain ⟨env', he', hf'⟩ := List.mem_filterMap.mp hm; exact List.mem_filterMap.mpr ⟨env', .tail _ he', hf'⟩)⟩, x4.up.ns r5, r6⟩ (hs.trans x4)
theorem flown_passes {α : Type} {l : List Env} {what : String} {env : Env} {Q : α → Shared → Prop} (R : Flown base l e at_ s'.heap) (hQ : ∀ h', Flown base l e at_ h' → SlotsKept s'.heap h' → E (.ref e) { s' with heap := h' }) :
    wpAny M A (PySem.passOn what (.ref e) env : Sem α) Q E s' := by
  obtain ⟨r1, r2, r3, d, m, ta, fl, r4, rd, r5, r6⟩ := R
  exact pass_on r1 r3 r4 fun h' fl' x1 x2 x3 x4 => hQ h' ⟨x1, r2, x2, d, m, ta, fl', x3, rd, x4.up.ns r5, r6⟩ x4
theorem frames_base {base B h : Heap} (k : base.StaysIn B) : ∀ {l : List Env}, h.FunFrames B l → h.FunFrames base l
  | [], _ => trivial
  | _ :: _, ⟨hk, ⟨L, o, hf, hn, ho, hd⟩, hr⟩ => ⟨hk, ⟨L, o, hf, fresh_of_stays k hn, ho, hd⟩, frames_base k hr⟩
theorem frames_but {base h h' : Heap} {C : Addr} {oC : Obj} (hC : base.get? C = some oC) (hs : ∀ b, b ≠ C → h'.get? b = h.get? b) : ∀ {l : List Env}, h.FunFrames base l → h'.FunFrames base l
  | [], _ => trivial
  | _ :: _, ⟨hk, ⟨L, o, hf, hn, ho, hd⟩, hr⟩ => ⟨hk, ⟨L, o, hf, hn, (hs L fun q => by rw [q, hC] at hn; cases hn).trans ho, hd⟩, frames_but hC hs hr⟩
/-- an object of B is changed: the fault flies on, above what lay below B -/
theorem flown_but {base B h h' : Heap} {l : List Env} {e C : Addr} {oC : Obj} {p : Int} (R : Flown B l e p h) (k : base.StaysIn B) (hC : B.get? C = some oC) (hC0 : base.get? C = none) (hs : ∀ b, b ≠ C → h'.get? b = h.get? b) : Flown base l e p h' := by
  obtain ⟨r1, r2, r3, d, m, ta, fl, r4, rd, r5, r6⟩ := R
  obtain ⟨oe, vs, T, oT, ts, he, hc, hdi, hd, h1, hnT, hTe, hT, hdT, h3⟩ := r4
  have ne : ∀ {b}, B.get? b = none → b ≠ C := fun hb q => by rw [q, hC] at hb; cases hb
  refine ⟨fun b o q => (hs b fun x => by rw [x, hC0] at q; cases q).trans (r1 b o (k b o q)), fresh_of_stays k r2, frames_base k (frames_but hC hs r3), d, m, ta, fl,
    ⟨oe, vs, T, oT, ts, (hs e (ne r2)).trans he, hc, hdi, hd, h1, fresh_of_stays k hnT, hTe, (hs T (ne hnT)).trans hT, hdT, h3⟩, ⟨fresh_of_stays k rd.1, rd.2⟩, ?_, r6⟩
  obtain ⟨o, es, ep, ho, r⟩ := r5
  exact ⟨o, es, ep, (hs d (ne rd.1)).trans ho, r⟩
theorem noteFrame_frame {env env' : Env} (v : Value) (h : env'.frame = env.frame) : noteFrame v env' = noteFrame v env := by unfold noteFrame PySem.frameOf; rw [h]
theorem flown_noted {env env' : Env} {Q : Unit → Shared → Prop} (hfr : A.frames = some (env :: outer)) (hf : env.frame = some L) (hf' : env'.frame = some L) (R : Flown base (env :: outer) e at_ s'.heap)
    (hQ : ∀ h', Flown base (env :: outer) e at_ h' → SlotsKept s'.heap h' → Q () { s' with heap := h' }) : wpAny M A (noteFrame (.ref e) env') Q E s' := by
  obtain ⟨r1, r2, r3, d, m, ta, fl, r4, rd, r5, r6⟩ := R
  rw [noteFrame_frame (env := env) _ (hf'.trans hf.symm)]
  exact note_next hfr r3 hf r4 r1 r2 fun h' fl' x1 x2 x3 x4 => hQ h' ⟨x1, r2, x2, d, m, ta, fl', x3, rd, x4.up.ns r5, r6⟩ x4
theorem flown_off {l : List Env} {Q : Unit → Shared → Prop} (R : Flown base l e at_ s'.heap) (hQ : ∀ h', Flown base l e at_ h' → SlotsKept s'.heap h' → Q () { s' with heap := h' }) : wpAny M A (setFlight (.ref e) none) Q E s' := by
  obtain ⟨r1, r2, r3, d, m, ta, fl, r4, rd, r5, r6⟩ := R
  exact mark_off r1 r3 r4 fun h' x1 x2 x3 x4 => hQ h' ⟨x1, r2, x2, d, m, ta, _, x3, rd, x4.up.ns r5, r6⟩ x4
theorem Below.keeps (K : Below A base outer g) (k : ∀ b o, g.get? b = some o → h.get? b = some o) : Below A base outer h :=
  ⟨K.stack, fun b o q => k b o (K.stays b o q), K.frames.of_keeps fun b o q _ => ⟨o, k b o q, rfl⟩⟩
/-- everything but the frames -/
def HideF (h : Heap) (l : List Env) : Heap := hideAll h (l.filterMap (·.frame))
theorem frames_hidden {base h : Heap} {as : List Addr} : ∀ {l : List Env}, h.FunFrames base l → (∀ env ∈ l, ∀ a, env.frame = some a → a ∈ as) → h.FunFrames (hideAll h as) l
  | [], _, _ => trivial
  | env :: _, ⟨hk, ⟨L, o, hf, _, ho, hd⟩, hr⟩, hin => ⟨hk, ⟨L, o, hf, hideAll_none _ (hin env (.head _) L hf), ho, hd⟩, frames_hidden hr fun e he => hin e (.tail _ he)⟩
theorem below_hidden (K : Below A base outer g) : Below A (HideF g outer) outer g :=
  ⟨K.stack, fun _ _ q => of_hideAll _ q, frames_hidden K.frames fun env he b hb => List.mem_filterMap.mpr ⟨env, he, hb⟩⟩
theorem hidden_base (K : Below A base outer g) : base.StaysIn (HideF g outer) := fun b o q => hideAll_get _ (K.stays b o q) fun hm => by rw [(K.frames.mem hm).1] at q; cases q
end
section
variable {M : Model} {A : Around} {E : Value → Shared → Prop} {s : Shared} {env : Env}
/-- raise with the program's own fault -/
theorem Raise_fault {x : Expr} {pos : Pos} {Q : Flow → Shared → Prop} (hh : A.handled = none)
    (h : wpAny M A (eval x env) (fun v s₁ => ∃ e t d, v = .ref e ∧ s₁.heap.get? 59 = some faultCls ∧ s₁.heap.get? e = some (faultObj t (some d)) ∧ E (.ref e) s₁) E s) :
    wpAny M A (exec (.Raise (some x) none pos) env) Q E s := by
  have hcB : (Value.ref 59 :: [Value.ref 46, .type "Exception", .type "BaseException", .type "object"]).contains (.type "BaseException") = true := by decide
  rw [arm_exec_Raise]
  refine wpAny_bind (wpAny_standAt ?_)
  show wpAny M A (raiseStmt env (some (do let v ← eval x env; standAt pos; pure v)) none) Q E s
  unfold raiseStmt
  refine wpAny_bind (wpAny_bind (wpAny_mono h (fun v s₁ h₁ => ?_) fun _ _ x => x))
  obtain ⟨e, t, d, rfl, hC, he, hE⟩ := h₁
  refine wpAny_bind (wpAny_standAt (wpAny_pure ?_))
  obtain ⟨hp, g, dr, tk, os⟩ := s₁
  repeat (first | with_reducible refine wpAny_loadPart_at he ?_ | with_reducible refine wpAny_loadPart_at hC ?_ | (with_reducible refine wpAny_isSubtype_exc (C := 59) hC ?_; rw [hcB]) | wp_step)
  exact wpAny_raiseNew_none hh hE
end
section
variable {w : World} {mean : ExcName → Option Value} {mg mb : Str → Option Value} {A : Around} {s : Shared} {E Q : Value → Shared → Prop}
    {name qual : Str} {params : Arguments} {body : List Stmt} {scope : Scope} {dV kV doc pm cdv ct oc : Value} {an od : Option Addr} {osl : Array (Option Value)} {f : Addr} {pos : List Value} {kw : List (Str × Value)} {binds : List (Str × Value)}
/-- a def without cells is entered, and may raise -/
theorem enterR
    (X : (Mine.hd.heap_1_39 w.params).In s.heap) (T : Top Mine.hd.view_1_40 (looseW Mine.hd.view_1_40 [Str.ofString "PostError", Str.ofString "encoded"]) mean mg mb s.heap)
    (ho : (Mine.hd.heap_1_39 w.params).lookup f = some ⟨oc, od, .func (fnOf name qual params body scope dV kV doc pm an cdv ct), osl⟩) (hcd : codeIn (Mine.hd.heap_1_39 w.params) cdv qual = true) (hroom : A.depth < recursionLimit)
    (hbind : BindsTo s (fnOf name qual params body scope dV kV doc pm an cdv ct) ⟨pos, kw⟩ binds) (hloc : ∀ y ∈ binds, scope.names.lookup y.1 = some .local)
    (h : ∀ L' h₁, Fr s.heap L' h₁ (fun y => binds.reverse.lookup y) → News s.heap L' h₁ [] →
      wpAny (model PySem.Challenge.rw_no0352_01.row.prog w) (A.deeper (envOf qual scope L' f cdv)) (execs body (envOf qual scope L' f cdv))
        (fun fl s' => Q (match fl with | .ret v => v | _ => .none) s') (Leaves (model PySem.Challenge.rw_no0352_01.row.prog w) (A.deeper (envOf qual scope L' f cdv)) (envOf qual scope L' f cdv) E)
        { s with heap := h₁, toks := s.toks + binds.length })
    (hco : scope.isCoroutine = false) (hgen : scope.isGenerator = false) (hk : scope.kind = .function)
    (hcell : ∀ x ∈ scope.names, x.2 ≠ .cell) : wpAny (model PySem.Challenge.rw_no0352_01.row.prog w) A (call (.ref f) pos kw) Q E s := by
  refine wpAny_call (codeAny_call_def (fd := fnOf name qual params body scope dV kV doc pm an cdv ct) (body := body) (binds := binds) hroom (X _ _ ho) rfl T.nolimit (codeRec_of X hcd) rfl hbind hcell hloc (fun h₁ hns hk₁ => ?_) hco hgen hk)
  exact h s.heap.objs.size h₁ ⟨hns, hk₁, Nat.le_refl _⟩ News.nil
end
end Mine
end
section
set_option maxRecDepth 100000
namespace Mine
section
local macro_rules | `(tactic| walk_at "eval ListComp") => `(tactic| walk_at "Z1")
local macro_rules | `(tactic| walk_at "exec Assign cons ListComp") => `(tactic| walk_at "Z2")
local macro_rules | `(tactic| walk_at "exec For Name Name cons nil") => `(tactic| walk_at "Z3")
local macro_rules | `(tactic| walk_at "exec For Name Call cons nil") => `(tactic| walk_at "Z3")
local macro_rules | `(tactic| walk_at "binaryOp BitAnd int int") => `(tactic| (with_reducible first | refine and63 ?_ | refine and255 ?_))
local macro_rules | `(tactic| walk_at "subscriptTail") => `(tactic| walk_at "Z10")
local macro_rules | `(tactic| walk_at "call builtin:len") => `(tactic| (refine len_to (by assumption) (by omega) ?_))
/-- is a pad there -/
def padB (ks : List Int) (a : Int) : Bool := decide (a < ks.length) && ks.getD a.toNat 0 == 61
set_option maxHeartbeats 4000000 in
theorem is_pad_spec {w : World} {mean : ExcName → Option Value} {mg mb : Str → Option Value} {dp un : Nat} {gd : Option (List Code)} {fr : Option (List Env)} {s : Shared} {E Q : Value → Shared → Prop}
    {b : Array UInt8} {ks : List Int} {at_ : Int} {tb ta : Tok}
    (X : (Mine.hd.heap_1_39 w.params).In s.heap) (T : Top Mine.hd.view_1_40 (looseW Mine.hd.view_1_40 [Str.ofString "PostError", Str.ofString "encoded"]) mean mg mb s.heap) (hdp : dp + 10 < recursionLimit) (hun : un + 100 < cLine)
    (hb : KBw.bInts b = ks) (hl : ks.length ≤ 1000) (h0 : 0 ≤ at_) (h1 : at_ ≤ 2000)
    (ret : ∀ h' tk', (∀ b o, s.heap.get? b = some o → h'.get? b = some o) → Q (.bool (padB ks at_)) { s with heap := h', toks := tk' }) :
    wpAny (model PySem.Challenge.rw_no0352_01.row.prog w) (Ar dp un gd fr) (call (.ref 124) [.bytes b tb, .int at_ ta]) Q E s := by
  revert X; k_fill; intro X
  refine' enter (binds := [(Str.ofString "data", .bytes b tb), (Str.ofString "at", .int at_ ta)]) X T ?k6 ?k7 ?k8 ?k9 ?kB ?_ ?c2 ?c3 ?c4 ?c5; (case k6 => k_is); (case k7 => k_is); (case k8 => (simp only [recursionLimit] at *; omega)); (case k9 => exact BindsTo.of_eq rfl); (case c5 => decide); (case kB => exact locs rfl); (case c2 => exact rfl); (case c3 => exact rfl); (case c4 => exact rfl)
  intro L' h' F' N'
  try dsimp only
  try k_fold
  have hbs : (b.size : Int) = (ks.length : Nat) := by rw [← KBw.ints_length, hb]
  k_steps
  · rename at_ < _ => hlt
    rename Fr _ _ _ _ => Fz
    have e : (ks.getD at_.toNat 0 == 61) = padB ks at_ := by unfold padB; rw [decide_eq_true hlt, Bool.true_and]
    rw [e]
    exact ret _ _ Fz.keep
  · rename ¬ at_ < _ => hlt
    rename Fr _ _ _ _ => Fz
    have e : padB ks at_ = decide (at_ < (ks.length : Int)) := by unfold padB; rw [decide_eq_false hlt, Bool.false_and]
    rw [← e]
    exact ret _ _ Fz.keep
end
end Mine
end
theorem Mine.quiet_C124 : True := by w_top off; trivial
section
set_option maxRecDepth 100000
namespace Mine
section
local macro_rules | `(tactic| walk_at "eval ListComp") => `(tactic| walk_at "Z1")
local macro_rules | `(tactic| walk_at "exec Assign cons ListComp") => `(tactic| walk_at "Z2")
local macro_rules | `(tactic| walk_at "exec For Name Name cons nil") => `(tactic| walk_at "Z3")
local macro_rules | `(tactic| walk_at "exec For Name Call cons nil") => `(tactic| walk_at "Z3")
local macro_rules | `(tactic| walk_at "binaryOp BitAnd int int") => `(tactic| (with_reducible first | refine and63 ?_ | refine and255 ?_))
local macro_rules | `(tactic| walk_at "subscriptTail") => `(tactic| walk_at "Z10")
local macro_rules | `(tactic| walk_at "call builtin:len") => `(tactic| (refine len_to (by assumption) (by omega) ?_))
local macro_rules | `(tactic| walk_at "exec Raise some none") => `(tactic| (k_here; refine Raise_fault rfl ?_))
/-- the worth of the sign there, or the place of the fault -/
def numR (ks : List Int) (a : Int) : Except Int Int := if ¬ a < ks.length then .error ks.length else if ks.getD a.toNat 0 ∉ SGN then .error a else .ok (SGN.idxOf (ks.getD a.toNat 0))
set_option maxHeartbeats 4000000 in
theorem strict_number_spec {w : World} {mean : ExcName → Option Value} {mg mb : Str → Option Value} {dp un : Nat} {gd : Option (List Code)} {outer : List Env} {base : Heap} {s : Shared} {E Q : Value → Shared → Prop}
    {b : Array UInt8} {ks : List Int} {at_ : Int} {tb ta : Tok} {W : Addr} {f : Int → Option Value}
    (X : (Mine.hd.heap_1_39 w.params).In s.heap) (T : Top Mine.hd.view_1_40 (looseW Mine.hd.view_1_40 [Str.ofString "PostError", Str.ofString "encoded"]) mean mg mb s.heap) (K : Below (Ar dp un gd (some outer)) base outer s.heap) (hdp : dp + 30 < recursionLimit) (hun : un + 300 < cLine)
    (hb : KBw.bInts b = ks) (hl : ks.length ≤ 1000) (h0 : 0 ≤ at_) (h1 : at_ ≤ 2000) (hw : s.heap.IntMap W f) (hf : WorthMap SGN f)
    (ret : ∀ n t h' tk', numR ks at_ = .ok n → (∀ b o, s.heap.get? b = some o → h'.get? b = some o) → Q (.int n t) { s with heap := h', toks := tk' })
    (err : ∀ p e h' tk', numR ks at_ = .error p → Flown base outer e p h' → SlotsKept s.heap h' → E (.ref e) { s with heap := h', toks := tk' }) :
    wpAny (model PySem.Challenge.rw_no0352_01.row.prog w) (Ar dp un gd (some outer)) (call (.ref 117) [.bytes b tb, .int at_ ta, .ref W]) Q E s := by
  revert X; k_fill; intro X
  refine' enterR (binds := [(Str.ofString "data", .bytes b tb), (Str.ofString "at", .int at_ ta), (Str.ofString "worths", .ref W)]) X T ?k6 ?k7 ?k8 ?k9 ?kB ?_ ?c2 ?c3 ?c4 ?c5; (case k6 => k_is); (case k7 => k_is); (case k8 => (simp only [recursionLimit] at *; omega)); (case k9 => exact BindsTo.of_eq rfl); (case c5 => decide); (case kB => exact locs rfl); (case c2 => exact rfl); (case c3 => exact rfl); (case c4 => exact rfl)
  intro L' h' F' N'
  try dsimp only
  try k_fold
  have hbs : (b.size : Int) = (ks.length : Nat) := by rw [← KBw.ints_length, hb]
  k_steps
  · rename _ ≥ _ => hge
    rename Fr _ _ _ _ => Fc
    refine' fault_spec (Frag.In.keeps X Fc.keep) (T.keeps Fc.keep) ?hdp ?hun ?ret
    case hdp => simp only [recursionLimit] at *; omega
    case hun => (have := cLine_is; show un + 3 + _ < _; omega)
    case ret =>
    intro h2 tk2 e t2 d2 m2 k1 k2 k3 k4 k5 k6 k7
    refine ⟨e, t2, d2, rfl, fault_cls ((Frag.In.keeps X Fc.keep).keeps k1), k3, ?_⟩
    show Leaves _ _ _ _ _ _
    exact fault_leaves K Fc k1 k2 k3 k5 k6.ns k7 rfl rfl fun h9 R9 S9 => err _ e h9 _ (by unfold numR; rw [if_pos (by omega)]) R9 S9
  rename ¬ _ ≥ _ => hge
  rename Fr _ _ _ _ => Fc
  refine notin_worths (IntMap.keeps hw Fc.keep) hf ?_
  k_steps
  · rename _ ∈ SGN => hin
    rename Fr _ _ _ _ => Fc
    refine item_worths (IntMap.keeps hw Fc.keep) hf hin (fun t2 => ?_) ?hs ?hg
    case hs => with_unfolding_all rfl
    case hg => intro _; with_unfolding_all rfl
    exact ret _ _ _ _ (by unfold numR; rw [if_neg (by omega), if_neg (by simpa using hin)]) Fc.keep
  · rename ¬ _ ∈ SGN => hout
    rename Fr _ _ _ _ => Fc
    refine' fault_spec (Frag.In.keeps X Fc.keep) (T.keeps Fc.keep) ?hdp ?hun ?ret
    case hdp => simp only [recursionLimit] at *; omega
    case hun => (have := cLine_is; show un + 3 + _ < _; omega)
    case ret =>
    intro h2 tk2 e t2 d2 m2 k1 k2 k3 k4 k5 k6 k7
    refine ⟨e, t2, d2, rfl, fault_cls ((Frag.In.keeps X Fc.keep).keeps k1), k3, ?_⟩
    show Leaves _ _ _ _ _ _
    exact fault_leaves K Fc k1 k2 k3 k5 k6.ns k7 rfl rfl fun h9 R9 S9 => err _ e h9 _ (by unfold numR; rw [if_neg (by omega), if_pos hout]) R9 S9
end
end Mine
end
theorem Mine.quiet_C117 : True := by w_top off; trivial
section
set_option maxRecDepth 100000
namespace Mine
section
local macro_rules | `(tactic| walk_at "eval ListComp") => `(tactic| walk_at "Z1")
local macro_rules | `(tactic| walk_at "exec Assign cons ListComp") => `(tactic| walk_at "Z2")
local macro_rules | `(tactic| walk_at "exec For Name Name cons nil") => `(tactic| walk_at "Z3")
local macro_rules | `(tactic| walk_at "exec For Name Call cons nil") => `(tactic| walk_at "Z3")
local macro_rules | `(tactic| walk_at "binaryOp BitAnd int int") => `(tactic| (with_reducible first | refine and63 ?_ | refine and255 ?_))
local macro_rules | `(tactic| walk_at "subscriptTail") => `(tactic| walk_at "Z6")
local macro_rules | `(tactic| walk_at "call builtin:len") => `(tactic| walk_at "Z5")
local macro_rules | `(tactic| walk_at "exec Raise some none") => `(tactic| (k_here; refine Raise_fault rfl ?_))
local macro_rules | `(tactic| walk_at "eval Call") => `(tactic| (with_unfolding_all refine Call_ ?_))
/-- the faults behind a group's octets -/
def endR (ks : List Int) (b pads : Int) : Except Int Unit := if pads = 2 ∧ padB ks (b + 3) = false then .error (b + 3) else if 0 < pads ∧ b + 4 < ks.length then .error (b + 4) else .ok ()
set_option maxHeartbeats 4000000 in
theorem check_end_spec {w : World} {mean : ExcName → Option Value} {mg mb : Str → Option Value} {dp un : Nat} {gd : Option (List Code)} {outer : List Env} {base : Heap} {s : Shared} {E Q : Value → Shared → Prop}
    {b : Array UInt8} {ks : List Int} {bg pads : Int} {tb ta tp : Tok}
    (X : (Mine.hd.heap_1_39 w.params).In s.heap) (T : Top Mine.hd.view_1_40 (looseW Mine.hd.view_1_40 [Str.ofString "PostError", Str.ofString "encoded"]) mean mg mb s.heap) (K : Below (Ar dp un gd (some outer)) base outer s.heap) (hdp : dp + 30 < recursionLimit) (hun : un + 300 < cLine)
    (hb : KBw.bInts b = ks) (hl : ks.length ≤ 1000) (h0 : 0 ≤ bg) (h1 : bg ≤ 1000)
    (ret : ∀ h' tk', endR ks bg pads = .ok () → (∀ b o, s.heap.get? b = some o → h'.get? b = some o) → Q .none { s with heap := h', toks := tk' })
    (err : ∀ p e h' tk', endR ks bg pads = .error p → Flown base outer e p h' → SlotsKept s.heap h' → E (.ref e) { s with heap := h', toks := tk' }) :
    wpAny (model PySem.Challenge.rw_no0352_01.row.prog w) (Ar dp un gd (some outer)) (call (.ref 131) [.bytes b tb, .int bg ta, .int pads tp]) Q E s := by
  revert X; k_fill; intro X
  refine' enterR (binds := [(Str.ofString "data", .bytes b tb), (Str.ofString "begin", .int bg ta), (Str.ofString "pads", .int pads tp)]) X T ?k6 ?k7 ?k8 ?k9 ?kB ?_ ?c2 ?c3 ?c4 ?c5; (case k6 => k_is); (case k7 => k_is); (case k8 => (simp only [recursionLimit] at *; (first | lia | omega))); (case k9 => exact BindsTo.of_eq rfl); (case c5 => decide); (case kB => exact locs rfl); (case c2 => exact rfl); (case c3 => exact rfl); (case c4 => exact rfl)
  intro L' h' F' N'
  try dsimp only
  try k_fold
  have hbs : (b.size : Int) = (ks.length : Nat) := by rw [← KBw.ints_length, hb]
  k_steps
  · rename pads = 2 => hp2
    rename Fr _ _ _ _ => Fc
    rename News _ _ _ _ => Nc
    refine' is_pad_spec (Frag.In.keeps X Fc.keep) (T.keeps Fc.keep) ?hdp ?hun hb hl (by (first | lia | omega)) (by (first | lia | omega)) ?ret
    case hdp => simp only [recursionLimit] at *; (first | lia | omega)
    case hun => (have := cLine_is; show un + 3 + _ < _; (first | lia | omega))
    case ret =>
    intro hh2 tk2 hk2
    have Fd := Fc.keeps hk2
    have Nd := Nc.grown hk2
    clear Fc Nc
    (try dsimp only)
    (try k_fold)
    k_steps
    · rename padB _ _ = true => hpad
      rename bg + 4 < _ => hlen
      rename Fr _ _ _ _ => Fc
      refine' fault_spec (Frag.In.keeps X Fc.keep) (T.keeps Fc.keep) ?hdp ?hun ?ret
      case hdp => simp only [recursionLimit] at *; (first | lia | omega)
      case hun => (have := cLine_is; show un + 3 + _ < _; (first | lia | omega))
      case ret =>
      intro h2 tk2 e t2 d2 m2 k1 k2 k3 k4 k5 k6 k7
      refine ⟨e, t2, d2, rfl, fault_cls ((Frag.In.keeps X Fc.keep).keeps k1), k3, ?_⟩
      show Leaves _ _ _ _ _ _
      exact fault_leaves K Fc k1 k2 k3 k5 k6.ns k7 rfl rfl fun h9 R9 S9 => err _ e h9 _ (by unfold endR; rw [if_neg (fun h => by rw [hpad] at h; exact absurd h.2 (by decide)), if_pos ⟨by (first | lia | omega), hlen⟩]) R9 S9
    · rename padB _ _ = true => hpad
      rename ¬ bg + 4 < _ => hlen
      rename Fr _ _ _ _ => Fc
      exact ret _ _ (by unfold endR; rw [if_neg (fun h => by rw [hpad] at h; exact absurd h.2 (by decide)), if_neg (fun h => hlen h.2)]) Fc.keep
    · rename padB _ _ = false => hpad
      rename Fr _ _ _ _ => Fc
      refine' fault_spec (Frag.In.keeps X Fc.keep) (T.keeps Fc.keep) ?hdp ?hun ?ret
      case hdp => simp only [recursionLimit] at *; (first | lia | omega)
      case hun => (have := cLine_is; show un + 3 + _ < _; (first | lia | omega))
      case ret =>
      intro h2 tk2 e t2 d2 m2 k1 k2 k3 k4 k5 k6 k7
      refine ⟨e, t2, d2, rfl, fault_cls ((Frag.In.keeps X Fc.keep).keeps k1), k3, ?_⟩
      show Leaves _ _ _ _ _ _
      exact fault_leaves K Fc k1 k2 k3 k5 k6.ns k7 rfl rfl fun h9 R9 S9 => err _ e h9 _ (by unfold endR; rw [if_pos ⟨hp2, hpad⟩]) R9 S9
  · rename pads ≠ 2 => hp2
    rename 0 < pads => hp0
    rename bg + 4 < _ => hlen
    rename Fr _ _ _ _ => Fc
    refine' fault_spec (Frag.In.keeps X Fc.keep) (T.keeps Fc.keep) ?hdp ?hun ?ret
    case hdp => simp only [recursionLimit] at *; (first | lia | omega)
    case hun => (have := cLine_is; show un + 3 + _ < _; (first | lia | omega))
    case ret =>
    intro h2 tk2 e t2 d2 m2 k1 k2 k3 k4 k5 k6 k7
    refine ⟨e, t2, d2, rfl, fault_cls ((Frag.In.keeps X Fc.keep).keeps k1), k3, ?_⟩
    show Leaves _ _ _ _ _ _
    exact fault_leaves K Fc k1 k2 k3 k5 k6.ns k7 rfl rfl fun h9 R9 S9 => err _ e h9 _ (by unfold endR; rw [if_neg (fun h => hp2 h.1), if_pos ⟨hp0, hlen⟩]) R9 S9
  · rename pads ≠ 2 => hp2
    rename ¬ bg + 4 < _ => hlen
    rename Fr _ _ _ _ => Fc
    exact ret _ _ (by unfold endR; rw [if_neg (fun h => hp2 h.1), if_neg (fun h => hlen h.2)]) Fc.keep
  · rename pads ≠ 2 => hp2
    rename ¬ 0 < pads => hp0
    rename Fr _ _ _ _ => Fc
    exact ret _ _ (by unfold endR; rw [if_neg (fun h => hp2 h.1), if_neg (fun h => hp0 h.1)]) Fc.keep
end
end Mine
end
theorem Mine.quiet_C131 : True := by w_top off; trivial
section
set_option maxRecDepth 100000
namespace Mine
section
local macro_rules | `(tactic| walk_at "eval ListComp") => `(tactic| walk_at "Z1")
local macro_rules | `(tactic| walk_at "exec Assign cons ListComp") => `(tactic| walk_at "Z2")
local macro_rules | `(tactic| walk_at "exec For Name Name cons nil") => `(tactic| walk_at "Z3")
local macro_rules | `(tactic| walk_at "exec For Name Call cons nil") => `(tactic| walk_at "Z3")
local macro_rules | `(tactic| walk_at "binaryOp BitAnd int int") => `(tactic| (with_reducible first | refine and63 ?_ | refine and255 ?_))
local macro_rules | `(tactic| walk_at "call builtin:len") => `(tactic| walk_at "Z5")
set_option maxHeartbeats 4000000 in
theorem worth_table_spec {w : World} {mean : ExcName → Option Value} {mg mb : Str → Option Value} {dp un : Nat} {gd : Option (List Code)} {fr : Option (List Env)} {s : Shared} {E Q : Value → Shared → Prop}
    {sg : Array UInt8} {ts : Tok} {sks : List Int} {n : Nat}
    (X : (Mine.hd.heap_1_39 w.params).In s.heap) (T : Top Mine.hd.view_1_40 (looseW Mine.hd.view_1_40 [Str.ofString "PostError", Str.ofString "encoded"]) mean mg mb s.heap) (hdp : dp + 10 < recursionLimit) (hun : un + 100 < cLine)
    (hs : KBw.bInts sg = sks) (hd : sks.Nodup) (hn : sks.length = n) (hsz : (sg.size : Int) = n) (hsl : n ≤ 64)
    (ret : ∀ D f h' tk', (∀ b o, s.heap.get? b = some o → h'.get? b = some o) → s.heap.get? D = none → h'.IntMap D f → WorthMap sks f → Q (.ref D) { s with heap := h', toks := tk' }) :
    wpAny (model PySem.Challenge.rw_no0352_01.row.prog w) (Ar dp un gd fr) (call (.ref 66) [.bytes sg ts]) Q E s := by
  revert X; k_fill; intro X
  refine' enterC1 (binds := [(Str.ofString "alphabet", .bytes sg ts)]) (x1 := Str.ofString "alphabet") (c1 := some (.bytes sg ts)) (lm := fun y => none) X T ?k6 ?k7 ?k8 ?k9 ?kB ?kD ?kc ?kl ?hc1 ?_ ?c2 ?c3 ?c4; (case k6 => k_is); (case k7 => k_is); (case k8 => (simp only [recursionLimit] at *; (first | lia | omega))); (case k9 => exact BindsTo.of_eq rfl); (case kB => exact rfl); (case kD => decide +kernel); (case kc => intro _; rfl); (case kl => intro _; rfl); (case hc1 => intro _; rfl); (case c2 => exact rfl); (case c3 => exact rfl); (case c4 => exact rfl)
  intro L' h' tk' o1 F' N' d1
  try dsimp only
  try k_fold
  k_steps
  rename Fr _ _ _ _ => F0
  rename News _ _ _ _ => N0
  rename IsRange _ _ _ _ _ _ _ _ => Rz
  show wpAny _ _ (pyIter _) _ _ _
  refine src_range (n := n) rfl F0 N0 Rz (small_of (by (first | lia | omega)) (by (first | lia | omega)) (by decide) (by decide)) (size_up (by (first | lia | omega)) (by (first | lia | omega)) (by (first | lia | omega))) (by rw [sizeLine_eq]; (first | lia | omega)) (fun g => ?_)
  refine rest_inv (fun i ys nw => ys.length = i ∧ ∃ own, nw = (L' + 1, o1) :: own ∧ ∀ (j : Nat) (k : Int), j < i → sks[j]? = some k → ∃ (T : Addr) (t t' : Tok), ys[j]? = some (.ref T) ∧ (T, ({ cls := .type "tuple", data := .seq [.int k t, .int j t'].toArray } : Obj)) ∈ own) ⟨rfl, [], rfl, fun j k h => by (first | lia | omega)⟩ ?_ ?_
  · rintro i ys nw v I oI C oC D m₂ hh tk' E' hi ⟨hyl, own, rfl, hys⟩ ⟨t', rfl⟩ hC hx F₂ N₂ off ne
    try k_fold
    k_steps
    rename Fr _ _ _ _ => Fy
    rename News _ _ _ _ => Ny
    rename _ ∧ _ => lt'
    rename_i tz kz _ _ Dz hz
    refine LCg.CompEnd.intro Fy Ny ((L' + 1, o1) :: (Dz, { cls := .type "tuple", data := .seq #[.int (sks.getD (0 + (i : Int) * 1).toNat 0) tz, .int (0 + (i : Int) * 1) t'] }) :: own) (fun p hp => ?_) ?_ trivial ?_
    · simp only [List.mem_cons] at hp ⊢
      rcases hp with h | h | h | h | h | h <;> simp [h]
    · exact ⟨off.1, ⟨Nat.ne_of_gt lt'.1, Nat.ne_of_gt lt'.2.1, Nat.ne_of_gt lt'.2.2.1⟩, off.2⟩
    · refine ⟨by simp [hyl], _, rfl, fun j k hj hk => ?_⟩
      rcases Nat.lt_or_ge j i with h | h
      · obtain ⟨T, t, t2, e, hm⟩ := hys j k h hk
        exact ⟨T, t, t2, by rw [List.getElem?_append_left (by (first | lia | omega))]; exact e, .tail _ hm⟩
      · have hji : j = i := by (first | lia | omega)
        subst hji
        refine ⟨Dz, tz, t', by rw [← hyl, List.getElem?_concat_length], ?_⟩
        rw [show (0 + (j : Int) * 1) = (j : Int) by (first | lia | omega)]
        have : sks.getD (j : Int).toNat 0 = k := by rw [Int.toNat_natCast, List.getD_eq_getElem?_getD, hk]; rfl
        rw [this]
        exact .head _
  · rintro ys nw ⟨hyl, own, rfl, hys⟩
    intro D hh tk' Fy Ny off
    (try dsimp only)
    (try k_fold)
    refine spliced_none ?_
    refine call_dict_pairs (ks := sks) rfl (Ny _ (.head _)).1 ⟨by (first | lia | omega), fun j k hk => ?_⟩ hd (by rw [sizeLine_eq]; (first | lia | omega)) (fun h2 tk2 f hk2 hm hw => ?_)
    · obtain ⟨T, t, t2, e, hm⟩ := hys j k (by have := (List.getElem?_eq_some_iff.mp hk).1; (first | lia | omega)) hk
      exact ⟨T, t, t2, e, (Ny _ (.tail _ (.tail _ hm))).1⟩
    · exact ret _ f h2 tk2 (fun b o ho => hk2 b o (Fy.keep b o ho)) (next_is_new Fy) hm hw
end
end Mine
end
theorem Mine.quiet_C66 : True := by w_top off; trivial
section
set_option maxRecDepth 100000
namespace Mine
/-- the row's number, 64 a place -/
def tos (ns : List Int) : Int := ns.foldl (fun a c => 64 * a + c) 0
theorem tos_succ {ns : List Int} {i : Nat} {k : Int} (h : ns[i]? = some k) : tos (ns.take (i + 1)) = 64 * tos (ns.take i) + k := by
  unfold tos
  rw [List.take_add_one, h]; simp
theorem tos_bound (ns : List Int) : (∀ k ∈ ns, 0 ≤ k ∧ k < 64) → 0 ≤ tos ns ∧ tos ns < 64 ^ ns.length := by
  have H : ∀ (ns : List Int) (a : Int) (n : Nat), (∀ k ∈ ns, 0 ≤ k ∧ k < 64) → 0 ≤ a → a < 64 ^ n → 0 ≤ ns.foldl (fun a c => 64 * a + c) a ∧ ns.foldl (fun a c => 64 * a + c) a < 64 ^ (n + ns.length) := by
    intro ns
    induction ns with
    | nil => intro a n _ h0 h1; exact ⟨h0, h1⟩
    | cons k r ih =>
      intro a n h h0 h1
      have hk := h k (.head _)
      rw [List.foldl_cons, List.length_cons, show n + (r.length + 1) = (n + 1) + r.length by (first | lia | omega)]
      refine ih _ _ (fun k hk => h k (.tail _ hk)) (by (first | lia | omega)) ?_
      rw [Int.pow_succ]; (first | lia | omega)
  intro h
  have := H ns 0 0 h (by (first | lia | omega)) (by decide)
  rw [Nat.zero_add] at this
  exact this
theorem tos_small {ns : List Int} (h : ∀ k ∈ ns, 0 ≤ k ∧ k < 64) (hl : ns.length ≤ 4) : 0 ≤ tos ns ∧ tos ns < 16777216 := by
  have hT := tos_bound ns h
  refine ⟨hT.1, Int.lt_of_lt_of_le hT.2 ?_⟩
  generalize ns.length = j at hl
  have : j = 0 ∨ j = 1 ∨ j = 2 ∨ j = 3 ∨ j = 4 := by (first | lia | omega)
  rcases this with rfl | rfl | rfl | rfl | rfl <;> decide
/-- the row's whole octets -/
def goW (ns : List Int) (m : Nat) : Int := (tos ns).fdiv (2 ^ (6 * (m : Int) - 8 * ((m : Int) - 1)).toNat)
def goI (ns : List Int) (m i : Nat) : Int := (goW ns m).fdiv (2 ^ (8 * ((m : Int) - 1 - 1 + (i : Int) * -1)).toNat) % 256
def goL (ns : List Int) (m : Nat) : List Int := (List.range (m - 1)).map (goI ns m)
def goS (ns : List Int) (m : Nat) : Int := Builtin.bitAnd (tos ns) (1 * 2 ^ (6 * (m : Int) - 8 * ((m : Int) - 1)).toNat - 1)
section
local macro_rules | `(tactic| walk_at "eval ListComp") => `(tactic| walk_at "Z1")
local macro_rules | `(tactic| walk_at "exec Assign cons ListComp") => `(tactic| walk_at "Z2")
local macro_rules | `(tactic| walk_at "exec For Name Name cons nil") => `(tactic| walk_at "Z3")
local macro_rules | `(tactic| walk_at "exec For Name Call cons nil") => `(tactic| walk_at "Z3")
local macro_rules | `(tactic| walk_at "binaryOp BitAnd int int") => `(tactic| (with_reducible first | refine and63 ?_ | refine and255 ?_))
set_option maxHeartbeats 4000000 in
theorem group_octets_spec {w : World} {mean : ExcName → Option Value} {mg mb : Str → Option Value} {dp un : Nat} {gd : Option (List Code)} {fr : Option (List Env)} {s : Shared} {E Q : Value → Shared → Prop}
    {l : Addr} {vs : List Value} {ns : List Int} {n : Nat}
    (X : (Mine.hd.heap_1_39 w.params).In s.heap) (T : Top Mine.hd.view_1_40 (looseW Mine.hd.view_1_40 [Str.ofString "PostError", Str.ofString "encoded"]) mean mg mb s.heap) (hdp : dp + 10 < recursionLimit) (hun : un + 100 < cLine)
    (hl : s.heap.IsList l vs.toArray) (hi : IntsAre vs ns) (hr : ∀ k ∈ ns, 0 ≤ k ∧ k < 64) (hn : ns.length = n) (h2 : 2 ≤ n) (h4 : n ≤ 4)
    (ret : ∀ D b t x u h' tk', (∀ b o, s.heap.get? b = some o → h'.get? b = some o) → s.heap.get? D = none → h'.get? D = some { cls := .type "tuple", data := .seq [.bytes b t, .int x u].toArray } → KBw.bInts b = goL ns n → x = goS ns n → Q (.ref D) { s with heap := h', toks := tk' }) :
    wpAny (model PySem.Challenge.rw_no0352_01.row.prog w) (Ar dp un gd fr) (call (.ref 76) [.ref l]) Q E s := by
  revert X; k_fill; intro X
  refine' enterC1 (binds := [(Str.ofString "worth_row", .ref l)]) (x1 := Str.ofString "whole") (c1 := none) (lm := fun y => if y = Str.ofString "worth_row" then some (.ref l) else none) X T ?k6 ?k7 ?k8 ?k9 ?kB ?kD ?kc ?kl ?hc1 ?_ ?c2 ?c3 ?c4; (case k6 => k_is); (case k7 => k_is); (case k8 => (simp only [recursionLimit] at *; (first | lia | omega))); (case k9 => exact BindsTo.of_eq rfl); (case kB => exact rfl); (case kD => decide +kernel); (case kc => intro _; rfl); (case kl => intro _; rfl); (case hc1 => intro _; rfl); (case c2 => exact rfl); (case c3 => exact rfl); (case c4 => exact rfl)
  intro L' h' tk' o1 F' N' d1
  try dsimp only
  try k_fold
  subst hn
  k_steps
  rename Fr _ _ _ _ => F0
  rename News _ _ _ _ => N0
  show wpAny _ _ (pyIter _) _ _ _
  refine iter_inv (fun i m => (∃ t, m (Str.ofString "total") = some (.int (tos (ns.take i)) t)) ∧ ∀ z, z ≠ Str.ofString "number" → z ≠ Str.ofString "total" → m z = (fun y => if y = Str.ofString "worth_row" then some (.ref l) else none) z) rfl hl hi F0 N0 ⟨⟨_, rfl⟩, fun z h1 h2 => by simp [h2]⟩ ?_ ?_
  · clear F0 N0
    rintro i k t m₁ h tk own hk0 ⟨⟨t0, ht⟩, hm⟩ F₁ N₁
    rw [map_one ht hm] at F₁
    have hT := tos_small (ns := ns.take i) (fun k hk => hr k (List.mem_of_mem_take hk)) (by rw [List.length_take]; (first | lia | omega))
    have hT1 := hT.1
    have hT2 := hT.2
    clear hT
    have hTs := tos_succ hk0
    have hkb := hr k (List.mem_of_getElem? hk0)
    have hkb1 := hkb.1
    have hkb2 := hkb.2
    clear hkb
    try k_fold
    k_steps
    rename Fr _ _ _ _ => Fz
    rename News _ _ _ _ => Nz
    refine InvEnd.intro Fz Nz (fun _ h => h) ⟨⟨_, by rw [hTs]; rfl⟩, fun z h1 h2 => by simp [h1, h2]⟩
  · clear F0 N0
    rintro m₁ h tk ⟨⟨t0, ht⟩, hm⟩ F₁ N₁
    rw [← done_one ht hm] at F₁
    rw [List.take_of_length_le (Nat.le_refl _)] at ht F₁
    have hT := tos_small hr (by (first | lia | omega))
    have hT1 := hT.1
    have hT2 := hT.2
    clear hT
    try k_fold
    k_steps
    rename Fr _ _ _ _ => Fz
    rename News _ _ _ _ => Nz
    rename IsRange _ _ _ _ _ _ _ _ => Rz
    rename Obj.data _ = _ => dz
    show wpAny _ _ (pyIter _) _ _ _
    refine src_range (n := ns.length - 1) rfl Fz Nz Rz (small_of (by (first | lia | omega)) (by (first | lia | omega)) (by decide) (by decide)) (size_down (by (first | lia | omega))) (by rw [sizeLine_eq]; (first | lia | omega)) (fun g => ?_)
    refine rest_inv (fun i ys nw => nw = [(L' + 1, _)] ∧ IntsAre ys ((List.range i).map (goI ns ns.length))) ⟨rfl, .nil⟩ ?_ ?_
    · rintro i ys nw v I oI C oC D m₂ hh tk' E' hi2 ⟨rfl, hys⟩ ⟨t', rfl⟩ hC hx F₂ N₂ off ne
      try k_fold
      k_steps
      rename Fr _ _ _ _ => Fy
      rename News _ _ _ _ => Ny
      exact LCg.CompEnd.intro Fy Ny [(L' + 1, _)] (fun _ h => h) off trivial ⟨rfl, ints_snoc hys⟩
    · rintro ys nw ⟨rfl, hys⟩
      intro D hh tk' Fy Ny off
      (try dsimp only)
      (try k_fold)
      k_steps
      refine KBa.make_K Fy Ny rfl (News.isList Ny (.head _)) hys (fun k hk => by
        obtain ⟨j, _, rfl⟩ := List.mem_map.mp hk
        unfold goI; (first | lia | omega)) (by simp; (first | lia | omega)) (fun h5 t5 k5 F5 N5 hI => ?_)
      (try dsimp only)
      (try k_fold)
      k_steps
      rename Fr _ _ _ _ => Fx
      rename News _ _ _ _ => Nx
      exact ret _ _ _ _ _ _ _ Fx.keep (Nx _ (.head _)).2.2 (Nx _ (.head _)).1 (KBa.ints_make hI) rfl
end
end Mine
end
theorem Mine.quiet_C76 : True := by w_top off; trivial
section
set_option maxRecDepth 100000
namespace Mine
/-- the row of worths that decoded reads -/
def rowP (ks : List Int) : List Int := (ks.filter (· ∈ SGN)).map (fun k => (SGN.idxOf k : Int))
def rowL (ks : List Int) : List Int := rowP (ks.takeWhile (· != 61))
theorem rowP_length (ks : List Int) : (rowP ks).length ≤ ks.length := by
  unfold rowP; rw [List.length_map]; exact List.length_filter_le _ _
theorem rowL_length (ks : List Int) : (rowL ks).length ≤ ks.length := Nat.le_trans (rowP_length _) (List.takeWhile_sublist _).length_le
theorem ints_push {ys : List Value} {ks : List Int} {k : Int} {t : Tok} (h : IntsAre ys ks) : IntsAre (ys ++ [.int k t]) (ks ++ [k]) := by
  induction h with
  | nil => exact .cons _ _ .nil
  | cons t' k' _ ih => exact .cons _ _ ih
theorem rowP_range (ks : List Int) : ∀ k ∈ rowP ks, 0 ≤ k ∧ k < 64 := by
  intro k hk
  obtain ⟨c, hc, rfl⟩ := List.mem_map.mp hk
  have := List.idxOf_lt_length_of_mem (by simpa using (List.mem_filter.mp hc).2 : c ∈ SGN)
  rw [sgn_length] at this
  omega
/-- the octets of decoded's i first groups -/
def goX (r : List Int) : List Int := goL r r.length
def decP (ns : List Int) (i : Nat) : List (List Int) := ((List.range i).filter (fun j => decide (4 * j + 1 < ns.length))).map (fun j => goX ((ns.drop (4 * j)).take 4))
theorem decP_in {ns : List Int} {i : Nat} (h : 4 * i + 1 < ns.length) : decP ns (i + 1) = decP ns i ++ [goX ((ns.drop (4 * i)).take 4)] := by
  unfold decP; rw [List.range_succ, List.filter_append, List.map_append]; simp [h]
theorem decP_out {ns : List Int} {i : Nat} (h : ¬ 4 * i + 1 < ns.length) : decP ns (i + 1) = decP ns i := by
  unfold decP; rw [List.range_succ, List.filter_append, List.map_append]; simp [h]
theorem decP_length (ns : List Int) (i : Nat) : (decP ns i).length ≤ i := by
  unfold decP; rw [List.length_map]; exact Nat.le_trans (List.length_filter_le _ _) (by simp)
theorem goX_length (r : List Int) : (goX r).length = r.length - 1 := by unfold goX goL; simp
theorem decP_sum {ns : List Int} : ∀ {i : Nat} {ps : List (Array UInt8)}, ps.map KBw.bInts = decP ns i → (ps.map (·.size)).sum ≤ 4 * i := by
  intro i ps h
  have hl : ps.length ≤ i := by
    have := congrArg List.length h
    rw [List.length_map] at this
    rw [this]; exact decP_length _ _
  have hx : ∀ b ∈ ps, b.size ≤ 4 := fun b hb => by
    have : KBw.bInts b ∈ decP ns i := by rw [← h]; exact List.mem_map_of_mem hb
    unfold decP at this
    obtain ⟨j, _, e⟩ := List.mem_map.mp this
    rw [← KBw.ints_length, ← e, goX_length, List.length_take]; omega
  have : (ps.map (·.size)).sum ≤ ps.length * 4 := by
    clear h hl
    induction ps with
    | nil => simp
    | cons b r ih =>
      have h1 := hx b (.head _)
      have h2 := ih fun b hb => hx b (.tail _ hb)
      simp only [List.map_cons, List.sum_cons, List.length_cons]
      omega
  omega
/-- what decoded gives -/
def decL (ks : List Int) : List Int := joinL [] (decP (rowL ks) (((rowL ks).length + 3) / 4))
theorem rowP_in {ks : List Int} {i : Nat} {k : Int} (h : ks[i]? = some k) (hk : k ∈ SGN) : rowP (ks.take (i + 1)) = rowP (ks.take i) ++ [(SGN.idxOf k : Int)] := by
  unfold rowP
  rw [List.take_add_one, h, List.filter_append]
  simp [hk]
theorem rowP_out {ks : List Int} {i : Nat} {k : Int} (h : ks[i]? = some k) (hk : k ∉ SGN) : rowP (ks.take (i + 1)) = rowP (ks.take i) := by
  unfold rowP
  rw [List.take_add_one, h, List.filter_append]
  simp [hk]
theorem while_all : ∀ {ks : List Int}, (∀ k ∈ ks, k ≠ 61) → ks.takeWhile (· != 61) = ks
  | [], _ => rfl
  | k :: r, h => by rw [List.takeWhile_cons, if_pos (by simp [h k (.head _)]), while_all fun k hk => h k (.tail _ hk)]
theorem while_at {ks : List Int} : ∀ {i : Nat}, (∀ k ∈ ks.take i, k ≠ 61) → ks[i]? = some 61 → ks.takeWhile (· != 61) = ks.take i := by
  induction ks with
  | nil => intro i _ h; simp at h
  | cons a r ih =>
    intro i h hk
    cases i with
    | zero => simp at hk; subst hk; simp
    | succ i =>
      rw [List.takeWhile_cons, if_pos (by simp [h a (by simp)]), List.take_succ_cons, ih (i := i) (fun k hk => h k (by simp [hk])) (by simpa using hk)]
theorem take_more {ks : List Int} {i : Nat} {k : Int} (h : ks[i]? = some k) (h1 : ∀ c ∈ ks.take i, c ≠ 61) (hk : k ≠ 61) : ∀ c ∈ ks.take (i + 1), c ≠ 61 := by
  intro c hc
  rw [List.take_add_one, h] at hc
  rcases List.mem_append.mp hc with hc | hc
  · exact h1 c hc
  · rw [show c = k by simpa using hc]; exact hk
section
local macro_rules | `(tactic| walk_at "none 0") => `(tactic| fail)
local macro_rules | `(tactic| walk_at "eval ListComp") => `(tactic| walk_at "Z1")
local macro_rules | `(tactic| walk_at "exec Assign cons ListComp") => `(tactic| walk_at "Z2")
local macro_rules | `(tactic| walk_at "exec For Name Name cons nil") => `(tactic| walk_at "Z3")
local macro_rules | `(tactic| walk_at "exec For Name Call cons nil") => `(tactic| walk_at "Z3")
local macro_rules | `(tactic| walk_at "binaryOp BitAnd int int") => `(tactic| (with_reducible first | refine and63 ?_ | refine and255 ?_))
local macro_rules | `(tactic| walk_at "subscriptTail") => `(tactic| walk_at "Z10")
local macro_rules | `(tactic| walk_at "call builtin:len") => `(tactic| (refine len_to (by assumption) (by omega) ?_))
local macro_rules | `(tactic| walk_at "getMethod bytes") => `(tactic| walk_at "Z8")
local macro_rules | `(tactic| walk_at "compareOp In int bytes") => `(tactic| (refine in_bytes (by omega) (by omega) ?_))
set_option maxHeartbeats 4000000 in
theorem decoded_spec {w : World} {mean : ExcName → Option Value} {mg mb : Str → Option Value} {dp un : Nat} {gd : Option (List Code)} {fr : Option (List Env)} {s : Shared} {E Q : Value → Shared → Prop}
    {bb : Array UInt8} {tb : Tok} {ks : List Int}
    (X : (Mine.hd.heap_1_39 w.params).In s.heap) (T : Top Mine.hd.view_1_40 (looseW Mine.hd.view_1_40 [Str.ofString "PostError", Str.ofString "encoded"]) mean mg mb s.heap) (hdp : dp + 20 < recursionLimit) (hun : un + 200 < cLine)
    (hb : KBw.bInts bb = ks) (hn : ks.length ≤ 1000)
    (ret : ∀ b t h' tk', (∀ b o, s.heap.get? b = some o → h'.get? b = some o) → KBw.bInts b = decL ks → Q (.bytes b t) { s with heap := h', toks := tk' }) :
    wpAny (model PySem.Challenge.rw_no0352_01.row.prog w) (Ar dp un gd fr) (call (.ref 110) [.bytes bb tb]) Q E s := by
  revert X; k_fill; intro X
  refine' enter (binds := [(Str.ofString "data", .bytes bb tb)]) X T ?k6 ?k7 ?k8 ?k9 ?kB ?_ ?c2 ?c3 ?c4 ?c5; (case k6 => k_is); (case k7 => k_is); (case k8 => (simp only [recursionLimit] at *; omega)); (case k9 => exact BindsTo.of_eq rfl); (case c5 => decide); (case kB => exact locs rfl); (case c2 => exact rfl); (case c3 => exact rfl); (case c4 => exact rfl)
  intro L' h' F' N'
  try dsimp only
  try k_fold
  k_steps
  rename Fr _ _ _ _ => Fc
  rename News _ _ _ _ => Nc
  have hsl : SGN.length = 64 := sgn_length
  refine' worth_table_spec (n := 64) (sks := SGN) (Frag.In.keeps X Fc.keep) (T.keeps Fc.keep) ?hdp ?hun sgn_ints ?nod sgn_length rfl (by decide) ?ret
  case hdp => simp only [recursionLimit] at *; omega
  case hun => (have := cLine_is; show un + 3 + _ < _; omega)
  case nod => decide
  case ret =>
  intro Dw f hh tk hk0 hD0 hm hw
  obtain ⟨ow, how, hwo⟩ := WorthObj.of hm
  have Fd := Fc.keeps hk0
  have Nd := news_more Fc Nc hk0 hD0 how
  (try dsimp only)
  (try k_fold)
  k_steps
  rename Fr _ _ _ _ => F0
  rename News _ _ _ _ => N0
  rename Dw < _ => lt0
  rename_i lw _ _
  show wpAny _ _ (pyIter _) _ _ _
  refine iter_bytes_brk (fun i m nw => (∃ ys n, nw = [(lw, listOf ys.toArray n), (Dw, ow)] ∧ IntsAre ys (rowP (ks.take i)) ∧ ∀ k ∈ ks.take i, k ≠ 61) ∧ ∀ z, z ≠ Str.ofString "code" → m z = (fun y => if y = Str.ofString "worth_row" then some (.ref lw) else if y = Str.ofString "worths" then some (.ref Dw) else List.lookup y [(Str.ofString "data", .bytes bb tb)].reverse) z)
    (fun m nw => (∃ ys n, nw = [(lw, listOf ys.toArray n), (Dw, ow)] ∧ IntsAre ys (rowL ks)) ∧ ∀ z, z ≠ Str.ofString "code" → m z = (fun y => if y = Str.ofString "worth_row" then some (.ref lw) else if y = Str.ofString "worths" then some (.ref Dw) else List.lookup y [(Str.ofString "data", .bytes bb tb)].reverse) z) hb rfl F0 N0 ⟨⟨[], 0, rfl, .nil, by simp⟩, fun _ _ => rfl⟩ ?_ ?_ ?_
  · clear F0 N0
    rintro i k t m₁ nw h tk own hk0 hk1 hk2 hoff ⟨⟨ys, n, rfl, hys, h61⟩, hm⟩ F₁ N₁
    replace F₁ := fr_turn hm F₁
    simp only [List.cons_append, List.nil_append] at N₁
    have hyl := hys.length
    have hrl := rowP_length (ks.take i)
    rw [← hyl, List.length_take] at hrl
    (try k_fold)
    k_steps
    · rename Fr _ _ _ _ => Fz
      rename News _ _ _ _ => Nz
      rename k = _ => he
      exact LeftEnd.intro (news' := [(lw, listOf ys.toArray n), (Dw, ow)]) Fz (fun p hp => Nz p (List.mem_append_left own hp)) ⟨⟨ys, n, rfl, by unfold rowL; rw [while_at h61 (he ▸ hk0)]; exact hys⟩, fun z hz => by simp [hz]⟩
    rename ¬ _ = _ => hne
    rename News _ _ _ _ => Nz
    refine in_worths (hwo.at (Nz _ (.tail _ (.head _))).1) hw ?_
    k_steps
    · rename k ∈ SGN => hin
      rename News _ _ _ _ => Nz
      refine item_worths (hwo.at (Nz _ (.tail _ (.head _))).1) hw hin (fun t2 => ?_) ?hs ?hg
      case hs => with_unfolding_all rfl
      case hg => intro _; with_unfolding_all rfl
      k_steps
      rename Fr _ _ _ _ => Fz
      rename News _ _ _ _ => Nz
      simp only [List.push_toArray] at Nz
      exact inv_end (nx := [(lw, listOf (ys ++ [Value.int (SGN.idxOf k) t2]).toArray (n + 1)), (Dw, ow)]) Fz Nz ⟨⟨_, _, rfl, by rw [rowP_in hk0 hin]; exact ints_push hys, take_more hk0 h61 hne⟩, fun z hz => by simp [hz]⟩ rfl rfl
    · rename ¬ _ ∈ SGN => hout
      rename Fr _ _ _ _ => Fz
      rename News _ _ _ _ => Nz
      exact inv_end (nx := [(lw, listOf ys.toArray n), (Dw, ow)]) Fz Nz ⟨⟨ys, n, rfl, by rw [rowP_out hk0 hout]; exact hys, take_more hk0 h61 hne⟩, fun z hz => by simp [hz]⟩ rfl rfl
  · rintro m₁ nw ⟨⟨ys, n, rfl, hys, h61⟩, hm⟩
    rw [List.take_of_length_le (Nat.le_refl _)] at hys h61
    refine ⟨⟨ys, n, rfl, ?_⟩, hm⟩
    unfold rowL
    rw [while_all h61]
    exact hys
  · clear F0 N0
    rintro m₁ nw h tk ⟨⟨ys, n, rfl, hys⟩, hm⟩ F₁ N₁
    replace F₁ := fr_done hm F₁
    have hyl := hys.length
    have hrl := rowL_length ks
    rw [← hyl] at hrl
    have hyf : ys.length ≤ 1099511627776 := by omega
    (try k_fold)
    k_steps
    rename Fr _ _ _ _ => F0
    rename News _ _ _ _ => N0
    rename IsRange _ _ _ _ _ _ _ _ => R0
    rename_i lf _ _ _ _ _ _ _ _ _ _ _ _ _
    show wpAny _ _ (pyIter _) _ _ _
    refine iter_rangeN (n := (ys.length + 3) / 4) (fun i m nw => (∃ fs n1, nw = [(lf, listOf fs.toArray n1), (lw, listOf ys.toArray n), (Dw, ow)] ∧ ∃ ps, BytesAre fs ps ∧ ps.map KBw.bInts = decP (rowL ks) i) ∧ ∀ z, z ≠ Str.ofString "begin" → m z = (fun y => if y = Str.ofString "found" then some (.ref lf) else if y = Str.ofString "code" then m₁ y else if y = Str.ofString "worth_row" then some (.ref lw) else if y = Str.ofString "worths" then some (.ref Dw) else List.lookup y [(Str.ofString "data", .bytes bb tb)].reverse) z) rfl R0 (small_of (by omega) (by omega) (by decide) (by decide)) (size_up (by decide) (by omega) (by omega)) F0 N0 ⟨⟨[], 0, rfl, [], .nil, rfl⟩, fun _ _ => rfl⟩ ?_ ?_
    · clear F0 N0 R0
      rintro i t m₂ nw h tk own hi hoff ⟨⟨fs, n1, rfl, ps, hfs, hps⟩, hm⟩ F₁ N₁
      replace F₁ := fr_turn hm F₁
      simp only [List.cons_append, List.nil_append] at N₁
      (try k_fold)
      k_steps
      · rename IntsAre _ _ => hI
        rename Fr _ _ _ _ => Fc
        rename News _ _ _ _ => Nc
        rename 1 < _ => h1
        have er : (List.take (min (0 + (i : Int) * 4 + 4).toNat (rowL ks).length - (0 + (i : Int) * 4).toNat) (List.drop (0 + (i : Int) * 4).toNat (rowL ks))) = ((rowL ks).drop (4 * i)).take 4 := by
          rw [show (0 + (i : Int) * 4).toNat = 4 * i by omega, show (0 + (i : Int) * 4 + 4).toNat = 4 * i + 4 by omega]
          rcases Nat.le_total (4 * i + 4) (rowL ks).length with h9 | h9
          · rw [Nat.min_eq_left h9, show 4 * i + 4 - 4 * i = 4 by omega]
          · rw [Nat.min_eq_right h9, List.take_of_length_le (by rw [List.length_drop]; omega), List.take_of_length_le (by rw [List.length_drop]; omega)]
        rw [er] at hI
        have hrr : (((rowL ks).drop (4 * i)).take 4).length = min 4 ((rowL ks).length - 4 * i) := by rw [List.length_take, List.length_drop]
        refine' group_octets_spec (n := (((rowL ks).drop (4 * i)).take 4).length) (Frag.In.keeps X Fc.keep) (T.keeps Fc.keep) ?hdp ?hun (News.isList Nc (.head _)) hI ?rng rfl (by omega) (by omega) ?ret
        case hdp => simp only [recursionLimit] at *; omega
        case hun => (have := cLine_is; show un + 3 + _ < _; omega)
        case rng => exact fun k hk => rowP_range _ k (List.mem_of_mem_drop (List.mem_of_mem_take hk))
        case ret =>
        intro D b1 t1 x1 u1 hh1 tk1 hk1 hD1 hg1 hb1 hx1
        have Fd := Fc.keeps hk1
        have Nd := news_more Fc Nc hk1 hD1 hg1
        (try dsimp only)
        (try k_fold)
        k_steps
        rename Fr _ _ _ _ => Fe
        rename News _ _ _ _ => Ne
        rename lf < _ ∧ _ => lt1
        rename lw < lf ∧ _ => lt2
        have hDf : D ≠ lf := ne_new Nc (.tail _ (.head _)) hD1
        have Ne' : News s.heap L' _ ([(D, _)] ++ (lf, { cls := .type "list", data := .seq fs.toArray n1 }) :: (lw, listOf ys.toArray n) :: (Dw, ow) :: own) := fun p hp => Ne p (by
          rcases List.mem_cons.mp hp with h | h
          · exact h ▸ .head _
          · exact .tail _ (.tail _ h))
        refine append_in (hsz := ?hsz) (x := .bytes b1 t1) Fe Ne' (apart_cons hDf apart_nil) (apart_cons (Nat.ne_of_lt lt2.1) (apart_cons (Nat.ne_of_lt lt2.2) (fun p hp => hoff p hp lf (.head _)))) (fun h9 F9 N9 => ?_)
        case hsz =>
          have h1 := congrArg List.length hps
          rw [List.length_map] at h1
          have := decP_length (rowL ks) i
          rw [hfs.length, sizeLine_eq]; omega
        k_steps
        rename Fr _ _ _ _ => Fz
        rename News _ _ _ _ => Nz
        exact inv_end (nx := [(lf, listOf (fs ++ [Value.bytes b1 t1]).toArray (n1 + 1)), (lw, listOf ys.toArray n), (Dw, ow)]) Fz (fun p hp => Nz p (.tail _ hp)) ⟨⟨_, _, rfl, ps ++ [b1], hfs.snoc _ _, by rw [List.map_append, hps, decP_in (by omega)]; simp [hb1, goX]⟩, fun z hz => by simp [hz]⟩ rfl rfl
      · rename Fr _ _ _ _ => Fz
        rename News _ _ _ _ => Nz
        rename ¬ 1 < _ => h1
        exact inv_end (nx := [(lf, listOf fs.toArray n1), (lw, listOf ys.toArray n), (Dw, ow)]) Fz Nz ⟨⟨_, _, rfl, ps, hfs, by rw [decP_out (by omega)]; exact hps⟩, fun z hz => by simp [hz]⟩ rfl rfl
    · clear F0 N0 R0
      rintro m₂ nw h tk ⟨⟨fs, n1, rfl, ps, hfs, hps⟩, hm⟩ F₁ N₁
      replace F₁ := fr_done hm F₁
      (try k_fold)
      k_steps
      rename Fr _ _ _ _ => Fx
      rename News _ _ _ _ => Nx
      have hpl : ps.length ≤ (ys.length + 3) / 4 := by
        have h1 := congrArg List.length hps
        rw [List.length_map] at h1
        rw [h1]; exact decP_length _ _
      have hsum := decP_sum hps
      refine bytes_join (News.isList Nx (.head _)) hfs (by rw [show (#[] : Array UInt8).size = 0 from rfl]; omega) (fun t5 k5 => ?_)
      refine ret _ _ _ _ Fx.keep ?_
      rw [joined_ints, hps, hyl]
      rfl
end
end Mine
end
theorem Mine.quiet_C110 : True := by w_top off; trivial
section
open PySem.Spec LCg
open Sem (wp)
set_option maxRecDepth 100000
namespace Mine
section
variable {prog : Program} {w : World} {A₀ : Around} {E : Value → Shared → Prop} {s : Shared} {h₀ base : Heap} {L : Addr} {m : Str → Option Value} {env : Env} {outer : List Env}
  {elt : Expr} {x : Str} {scope : Scope} {cl : List (Str × Addr)}
/-- what stands behind an element's fault -/
def EltErr (outer : List Env) (B h : Heap) (bad : Int → Prop) (s₂ : Shared) (v : Value) (s' : Shared) : Prop :=
  ∃ e p h' tk', v = .ref e ∧ s' = { s₂ with heap := h', toks := tk' } ∧ bad p ∧ Flown B outer e p h' ∧ SlotsKept h h'
theorem slots_but {a b c : Heap} {C : Addr} (x : SlotsKept a b) (hC : a.get? C = none) (hs : ∀ y, y ≠ C → c.get? y = b.get? y) : SlotsKept a c := fun p o e hn => by
  obtain ⟨sl, q⟩ := x p o e hn
  exact ⟨sl, (hs p fun z => by rw [z, hC] at e; cases e).trans q⟩
/-- a comprehension whose elements may raise the fault -/
theorem block_E {iter : Expr} {px : Pos} {pos : Pos} {s₂ : Shared} {I : Addr} {fp : List Addr} {n : Nat} {P : Nat → Value → Prop} {St : Nat → Heap → Prop} {S : List (Addr × Obj) → Prop} {news : List (Addr × Obj)}
    {J : Nat → List Value → List (Addr × Obj) → Prop} {bad : Nat → Int → Prop} {RR : Value → Addr → Result → Shared → Prop}
    (K : Below A₀ base outer h₀) (hf : env.frame = some L) (hek : env.scope.kind = .function)
    (W : Walks prog w (A₀.deeper env) I fp [I] n P St) (hsz : n ≤ sizeLine) (hIo : ∀ i h, St i h → ∃ o, h.get? I = some o)
    (hSt : ∀ i h h' o nw, St i h → h.get? I = some o → h'.get? I = some o → (∀ b o, h₀.get? b = some o → h'.get? b = some o) → News h₀ L h' nw → S nw → St i h')
    (hcell : ∀ y ∈ scope.names, y.2 ≠ .cell) (hkind : scope.kind = .function) (hx : scope.names.lookup x = some .local) (hst : St 0 s₂.heap) (hfp : ∀ b ∈ fp, b < s₂.heap.objs.size)
    (F : Fr h₀ L s₂.heap m) (N : News h₀ L s₂.heap news) (hIL : L ≠ I) (hI₀ : h₀.get? I = none) (off : ∀ p ∈ news, p.1 ≠ I) (hS : S news) (hJ : J 0 [] news)
    (turn : ∀ i ys news v oI C oC D m₂ h tk B, i < n → J i ys news → P i v → NsObj oC m₂ → m₂ x = some v → Fr h₀ L h m → News h₀ L h ((I, oI) :: (C, oC) :: (D, lst ys) :: news) → Off3 I C D news → ((@Ne Nat I C) ∧ (@Ne Nat I D) ∧ (@Ne Nat C D)) → Below (A₀.deeper env) B (env :: outer) h →
      wpAny (model prog w) (A₀.deeper env) (eval elt (compEnvC scope cl C env)) (CompEnd h₀ L m { s₂ with heap := h, toks := tk } I oI C oC D (lst ys) S (fun y news' => J (i + 1) (ys ++ [y]) news')) (EltErr (env :: outer) B h (bad i) s₂) { s₂ with heap := h, toks := tk })
    (hRR : ∀ D C h tk m' ys news', Fr h₀ L h m → News h₀ L h ((D, lst ys) :: news') → Off1 D news' → h.Ns C m' → h₀.get? C = none → h₀.get? D = none → C ≠ L → D ≠ L → C ≠ D → (∀ p ∈ news', p.1 ≠ C) → J n ys news' → RR (.ref D) C (.ok .next) { s₂ with heap := h, toks := tk })
    (hER : ∀ D C i e p h tk m', bad i p → h.Ns C m' → (∀ h', (∀ b, b ≠ C → h'.get? b = h.get? b) → Flown base (env :: outer) e p h' ∧ SlotsKept h₀ h') → RR (.ref D) C (.error (.ref e)) { s₂ with heap := h, toks := tk }) :
    wpAny (model prog w) (A₀.deeper env) (newList []) (fun acc s₃ => wpAny (model prog w) (A₀.deeper env) (newFunctionEnv scope env.globals cl [] env.qual none .none (some env)) (fun cenv s₄ =>
      codeAny (model prog w) (A₀.deeper env) (.compStart (.ListComp elt [⟨.Name x px, iter, [], 0⟩] scope pos) 0 (.ref I) acc { cenv with scope := relabel scope env }) (RR acc cenv.locals) s₄) E s₃) E s₂ := by
  have hfr : (A₀.deeper env).frames = some (env :: outer) := Around.frames_deeper K.stack
  refine wpAny_newObj_type (wpAny_newFunctionEnv hcell (by intro y hy; simp at hy) (fun h₁ hns₁ hsb₁ => ?_) hkind)
  dsimp only at hns₁ hsb₁ ⊢
  generalize hH2 : s₂.heap.push { cls := .type "list", dict := none, data := .seq ([] : List Value).toArray } = H2 at hns₁ hsb₁ ⊢
  have hC : H2.objs.size = s₂.heap.objs.size + 1 := by rw [← hH2, Heap.size_push]
  have hDC : s₂.heap.objs.size ≠ H2.objs.size := by rw [hC]; exact Nat.ne_of_lt (Nat.lt_succ_self _)
  have below : ∀ b, b < s₂.heap.objs.size → b ≠ H2.objs.size ∧ b ≠ s₂.heap.objs.size := fun b hb => ⟨by rw [hC]; exact Nat.ne_of_lt (Nat.lt_succ_of_lt hb), Nat.ne_of_lt hb⟩
  have hDf : s₂.heap.objs.size ∉ fp := fun hm => Nat.lt_irrefl _ (hfp _ hm)
  have hCf : H2.objs.size ∉ fp := fun hm => by have := hfp _ hm; rw [hC] at this; exact Nat.lt_irrefl _ (Nat.lt_of_succ_lt this)
  have hIf : I ∈ fp := W.sub I (List.mem_singleton.mpr rfl)
  have hIlt : I < s₂.heap.objs.size := hfp I hIf
  have old : ∀ b o, s₂.heap.get? b = some o → h₁.get? b = some o := fun b o e => hsb₁.extBut b o (below b (Heap.lt_size e)).1 (Heap.get?_push_of_some _ (hH2 ▸ Heap.get?_push_of_some _ e))
  have hacc : h₁.get? s₂.heap.objs.size = some (lst []) := hsb₁.extBut _ _ hDC (Heap.get?_push_of_some _ (hH2 ▸ Heap.get?_push_size _ rfl))
  have hst₁ : St 0 h₁ := W.frame _ _ _ hst fun b _ o e => old b o e
  have fresh : ∀ a, s₂.heap.objs.size ≤ a → s₂.heap.get? a = none := fun a ha => by
    cases e : s₂.heap.get? a with
    | none => rfl
    | some o' => exact absurd (Heap.lt_size e) (Nat.not_lt.mpr ha)
  have fresh₀ : ∀ a, s₂.heap.objs.size ≤ a → h₀.get? a = none := fun a ha => by
    cases e : h₀.get? a with
    | none => rfl
    | some o' => have := F.keep a o' e; rw [fresh a ha] at this; cases this
  have hD₀ : h₀.get? s₂.heap.objs.size = none := fresh₀ _ (Nat.le_refl _)
  have hC₀ : h₀.get? H2.objs.size = none := fresh₀ _ (by rw [hC]; exact Nat.le_succ _)
  have hLlt : L < s₂.heap.objs.size := F.ns.lt
  have hDL : s₂.heap.objs.size ≠ L := Ne.symm (below L hLlt).2
  have hCL : H2.objs.size ≠ L := Ne.symm (below L hLlt).1
  have hCI : I ≠ H2.objs.size := (below I hIlt).1
  have hDI : I ≠ s₂.heap.objs.size := (below I hIlt).2
  have off₀ : Off3 I H2.objs.size s₂.heap.objs.size news := Off3.of fun p hp => ⟨off p hp, (below _ (Heap.lt_size (N p hp).1)).1, (below _ (Heap.lt_size (N p hp).1)).2⟩
  have loop : ∀ s₃ : Shared, s₃ = { s₂ with heap := h₁, toks := s₂.toks + ([] : List (Str × Value)).length } →
      codeAny (model prog w) (A₀.deeper env) (.compLoop (.ListComp elt [⟨.Name x px, iter, [], 0⟩] scope pos) 0 (.ref I) (.ref s₂.heap.objs.size) (compEnvC scope cl H2.objs.size env))
        (RR (.ref s₂.heap.objs.size) H2.objs.size) s₃ := by
    rintro s₃ rfl
    refine codeAny_compLoop_tests
      (fun k s' => ∃ h' tk i ys m' news', s' = { s₂ with heap := h', toks := tk } ∧ i ≤ n ∧ k = n + 1 - i ∧ ys.length = i ∧ St i h' ∧ Fr h₀ L h' m ∧ h'.Ns H2.objs.size m' ∧ News h₀ L h' ((s₂.heap.objs.size, lst ys) :: news') ∧
        Off3 I H2.objs.size s₂.heap.objs.size news' ∧ S news' ∧ J i ys news') ?_ (n + 1)
      ⟨h₁, _, 0, [], _, news, rfl, Nat.zero_le _, rfl, rfl, hst₁, F.keeps old, hns₁, fun p hp => ?_, off₀, hS, hJ⟩
    · rintro k s' ⟨h', tk, i, ys, m', news', rfl, hi, rfl, hyl, hst', F', hn', N', off', hS', R'⟩
      by_cases hlt : i < n
      · refine W.item i _ _ _ hlt hst' fun v h₂ tk₂ hPv hst₂ hk₂ => ?_
        refine wpAny_assign_Name (wpAny_storeName_local (lookup_relabel_local hx) (hn'.at' fun o e => hk₂ _ o (by simpa using Ne.symm hCI) e) (fun h₃ hn₃ hs₃ => ?_) (by simp [compEnvC, relabel, hkind]))
        refine wpAny_tests_nil ?_
        simp only [if_true]
        have hst₃ : St (i + 1) h₃ := W.frame _ _ _ hst₂ fun b hb o e => hs₃.extBut b o (fun q => hCf (by have q' : b = H2.objs.size := q; rw [← q']; exact hb)) e
        obtain ⟨oI, heI⟩ := hIo _ _ hst₃
        obtain ⟨oC, heC, hoC⟩ := ns_obj hn₃
        have F₃ : Fr h₀ L h₃ m := (fr_but F' hk₂ hIL hI₀).change hs₃ hCL hC₀
        have off3 := off'.mem
        have N₂ : News h₀ L h₂ ((s₂.heap.objs.size, lst ys) :: news') := news_but N' hk₂ fun p hp => by
          rcases List.mem_cons.mp hp with rfl | hp
          · exact Ne.symm hDI
          · exact (off3 p hp).1
        have N₃ : News h₀ L h₃ ((I, oI) :: (H2.objs.size, oC) :: (s₂.heap.objs.size, lst ys) :: news') := fun p hp => by
          rcases List.mem_cons.mp hp with rfl | hp
          · exact ⟨heI, Ne.symm hIL, hI₀⟩
          · rcases List.mem_cons.mp hp with rfl | hp
            · exact ⟨heC, hCL, hC₀⟩
            · have z := N₂ p hp
              refine ⟨hs₃.extBut _ _ ?_ z.1, z.2⟩
              rcases List.mem_cons.mp hp with rfl | hp
              · exact hDC
              · exact (off3 p hp).2.1
        have K₃ := below_push K F₃ hf hek
        refine wpAny_mono (turn i ys news' v oI H2.objs.size oC s₂.heap.objs.size _ h₃ _ _ hlt R' hPv hoC (by simp) F₃ N₃ off' ⟨hCI, hDI, Ne.symm hDC⟩ (below_hidden K₃)) (fun y s₄ h₄ => ?_) (fun v' s₄ h₄ => ?_)
        · obtain ⟨h₄, tk₄, news₄, rfl, F₄, N₄, off₄, hS₄, R₄⟩ := h₄
          have zI := (N₄ (I, oI) List.mem_cons_self).1
          have zC := (N₄ (H2.objs.size, oC) (List.mem_cons_of_mem _ List.mem_cons_self)).1
          have zD := (N₄ (s₂.heap.objs.size, lst ys) (List.mem_cons_of_mem _ (List.mem_cons_of_mem _ List.mem_cons_self))).1
          have N₄' : News h₀ L h₄ news₄ := fun p hp => N₄ p (List.mem_cons_of_mem _ (List.mem_cons_of_mem _ (List.mem_cons_of_mem _ hp)))
          have hst₄ : St (i + 1) h₄ := hSt _ _ _ _ _ hst₃ heI zI F₄.keep N₄' hS₄
          refine append_at (hsz := by show ys.toArray.size ≤ sizeLine; rw [List.size_toArray, hyl]; exact Nat.le_trans hi hsz) zD fun h₅ hs₅ hD₅ => ?_
          have off4 := off₄.mem
          refine ⟨n + 1 - (i + 1), by (first | lia | omega), h₅, tk₄, i + 1, ys ++ [y], _, news₄, rfl, hlt, rfl, by rw [List.length_append, List.length_singleton, hyl], W.frame _ _ _ hst₄ fun b hb o e => hs₅.extBut b o (fun q => hDf (q ▸ hb)) e, F₄.change hs₅ hDL hD₀,
            (hoC.ns zC).sameBut hs₅ (Ne.symm hDC), fun p hp => ?_, off₄, hS₄, R₄⟩
          rcases List.mem_cons.mp hp with rfl | hp
          · exact ⟨hD₅.trans (congrArg some (lst_snoc ys y)), hDL, hD₀⟩
          · exact ⟨hs₅.extBut _ _ (off4 p hp).2.2 (N₄' p hp).1, (N₄' p hp).2⟩
        · obtain ⟨e, p, h₄, tk₄, rfl, rfl, hbad, fl₄, sk₄⟩ := h₄
          refine flown_noted (L := L) hfr hf hf fl₄ fun h₅ fl₅ sk₅ => ?_
          have hBC : (HideF h₃ (env :: outer)).get? H2.objs.size = some oC := hideAll_get _ heC fun hm => by
            obtain ⟨env', he', hf'⟩ := List.mem_filterMap.mp hm
            rcases List.mem_cons.mp he' with rfl | he'
            · rw [hf] at hf'; exact hCL (Option.some.inj hf').symm
            · obtain ⟨o, ho, _⟩ := (K.frames.mem (List.mem_filterMap.mpr ⟨env', he', hf'⟩)).2
              rw [hC₀] at ho; cases ho
          refine hER _ _ i e p h₅ tk₄ _ hbad (hoC.ns (fl₅.1 _ _ hBC)) fun h₆ hs₆ => ⟨flown_but fl₅ (hidden_base K₃) hBC (fresh_of_stays K.stays hC₀) hs₆, ?_⟩
          exact slots_but ((SlotsKept.of_keeps F₃.keep).trans (sk₄.trans sk₅)) hC₀ hs₆
      · obtain rfl : i = n := Nat.le_antisymm hi (Nat.not_lt.mp hlt)
        refine W.done _ _ _ hst' fun h₂ tk₂ hk₂ => ?_
        have off3 := off'.mem
        exact hRR _ _ h₂ tk₂ _ ys news' (fr_but F' hk₂ hIL hI₀) (news_but N' hk₂ fun p hp => by
          rcases List.mem_cons.mp hp with rfl | hp
          · exact Ne.symm hDI
          · exact (off3 p hp).1) off'.one (hn'.at' fun o e => hk₂ _ o (by simpa using Ne.symm hCI) e) hC₀ hD₀ hCL hDL (Ne.symm hDC) (fun p hp => (off3 p hp).2.1) R'
    · rcases List.mem_cons.mp hp with rfl | hp
      · exact ⟨hacc, hDL, hD₀⟩
      · exact ⟨old _ _ (N p hp).1, (N p hp).2⟩
  exact codeAny_compStart_list (loop _ rfl) (W.self 0 _ _ _ hst₁ (loop _ rfl))
/-- one turn of a comprehension that may raise -/
def TurnE (prog : Program) (w : World) (A₀ : Around) (env : Env) (outer : List Env) (h₀ : Heap) (L : Addr) (m : Str → Option Value) (elt : Expr) (x : Str) (scope : Scope) (cl : List (Str × Addr)) (S : List (Addr × Obj) → Prop) (P : Nat → Value → Prop) (s₂ : Shared)
    (n : Nat) (J : Nat → List Value → List (Addr × Obj) → Prop) (bad : Nat → Int → Prop) : Prop :=
  ∀ i ys news v I oI C oC D m₂ h tk B, i < n → J i ys news → P i v → NsObj oC m₂ → m₂ x = some v → Fr h₀ L h m → News h₀ L h ((I, oI) :: (C, oC) :: (D, lst ys) :: news) → Off3 I C D news → ((@Ne Nat I C) ∧ (@Ne Nat I D) ∧ (@Ne Nat C D)) → Below (A₀.deeper env) B (env :: outer) h →
      wpAny (model prog w) (A₀.deeper env) (eval elt (compEnvC scope cl C env)) (CompEnd h₀ L m { s₂ with heap := h, toks := tk } I oI C oC D (lst ys) S (fun y news' => J (i + 1) (ys ++ [y]) news')) (EltErr (env :: outer) B h (bad i) s₂) { s₂ with heap := h, toks := tk }
/-- where the iterator of a comprehension that may raise stands -/
inductive SrcE (prog : Program) (w : World) (A₀ : Around) (base : Heap) (outer : List Env) (h₀ : Heap) (L : Addr) (m : Str → Option Value) (env : Env) (elt : Expr) (x : Str) (scope : Scope) (cl : List (Str × Addr)) (Fin : Shared → List Value → List (Addr × Obj) → Prop) (E : Value → Shared → Prop) (it : Value) (s₂ : Shared) : Prop
  | mk (I : Addr) (fp : List Addr) (n : Nat) (P : Nat → Value → Prop) (St : Nat → Heap → Prop) (S : List (Addr × Obj) → Prop) (news : List (Addr × Obj)) (J : Nat → List Value → List (Addr × Obj) → Prop) (bad : Nat → Int → Prop) :
    it = .ref I →
    Walks prog w (A₀.deeper env) I fp [I] n P St →
    n ≤ sizeLine →
    (∀ i h, St i h → ∃ o, h.get? I = some o) →
    (∀ i h h' o nw, St i h → h.get? I = some o → h'.get? I = some o → (∀ b o, h₀.get? b = some o → h'.get? b = some o) → News h₀ L h' nw → S nw → St i h') →
    St 0 s₂.heap →
    (∀ b ∈ fp, b < s₂.heap.objs.size) →
    Fr h₀ L s₂.heap m →
    News h₀ L s₂.heap news →
    L ≠ I →
    h₀.get? I = none →
    (∀ p ∈ news, p.1 ≠ I) →
    S news →
    J 0 [] news →
    TurnE prog w A₀ env outer h₀ L m elt x scope cl S P s₂ n J bad →
    (∀ ys nw, J n ys nw → Fin s₂ ys nw) →
    (∀ i p e h' tk', bad i p → Flown base (env :: outer) e p h' → SlotsKept h₀ h' → E (.ref e) { s₂ with heap := h', toks := tk' }) → SrcE prog w A₀ base outer h₀ L m env elt x scope cl Fin E it s₂
theorem ListComp_E {iter : Expr} {px : Pos} {pos : Pos} {Q : Value → Shared → Prop} (K : Below A₀ base outer h₀) (F₀ : Fr h₀ L s.heap m) (hf : env.frame = some L) (hek : env.scope.kind = .function) (hclos : closureFor scope env = pure cl) (hcell : ∀ y ∈ scope.names, y.2 ≠ .cell) (hkind : scope.kind = .function)
    (hnames : ∀ y ∈ scope.names, y.2 = .local → scope.names.lookup y.1 = some .local) (hx : scope.names.lookup x = some .local)
    (h : wpAny (model prog w) (A₀.deeper env) (eval iter env) (fun xv s₁ => Hold (wpAny (model prog w) (A₀.deeper env) (pyIter xv) (SrcE prog w A₀ base outer h₀ L m env elt x scope cl (fun s₂ => FinE h₀ L m s₂ Q) E) E s₁)) E s)
    (hs : ∀ x, foldedSetIterable iter env x = pure x) :
    wpAny (model prog w) (A₀.deeper env) (eval (.ListComp elt [⟨.Name x px, iter, [], 0⟩] scope pos) env) Q E s := by
  rw [eval_ListComp]
  refine wpAny_comprehension_free (use := none) rfl hs hclos hkind hnames (wpAny_mono h (fun xv s₁ h₁ => wpAny_mono h₁ (fun it s₂ h₂ => ?_) fun _ _ e => e) fun _ _ e => e)
  obtain ⟨I, fp, n, P, St, S, news, J, bad, rfl, W, hsz, hIo, hSt, hst, hfp, F, N, hIL, hI0, off, hS, hJ, turn, hfin, hbad⟩ := h₂
  refine block_E (RR := fun acc C => compPost (model prog w) (A₀.deeper env) E none Q acc C) K hf hek W hsz hIo hSt hcell hkind hx hst hfp F N hIL hI0 off hS hJ (fun i ys news v oI C oC D m₂ h tk B a1 a2 a3 a4 a5 a6 a7 a8 a9 a10 => turn i ys news v I oI C oC D m₂ h tk B a1 a2 a3 a4 a5 a6 a7 a8 a9 a10) ?_ ?_
  · intro D C h' tk m' ys news' F' N' o1 hn hC₀ hD₀ hCL hDL hCD offC hj
    refine ⟨m', hn, fun h'' hs'' => hfin ys news' hj D h'' tk (F'.change hs'' hCL hC₀) (fun p hp => ?_) o1⟩
    refine ⟨hs''.extBut _ _ ?_ (N' p hp).1, (N' p hp).2⟩
    rcases List.mem_cons.mp hp with rfl | hp
    · exact Ne.symm hCD
    · exact offC p hp
  · intro D C i e p h tk m' hb hn hall
    refine ⟨m', hn, fun h' hs' cenv hce => ?_⟩
    obtain ⟨fl, sk⟩ := hall h' hs'.2
    exact flown_passes fl fun h'' fl' sk' => hbad i p e h'' tk hb fl' (sk.trans sk')
theorem Assign_ListComp_E {iter : Expr} {y : Str} {px py : Pos} {pos spos : Pos} {Q : Flow → Shared → Prop} (K : Below A₀ base outer h₀) (F₀ : Fr h₀ L s.heap m) (hf : env.frame = some L) (hek : env.scope.kind = .function) (hLe : env.locals = L)
    (hsw : swapsWith (.ListComp elt [⟨.Name x px, iter, [], 0⟩] scope pos) (some (.Name y py)) spos.line env = pure true)
    (hclos : closureFor scope env = pure cl) (hcell : ∀ z ∈ scope.names, z.2 ≠ .cell) (hkind : scope.kind = .function)
    (hnames : ∀ z ∈ scope.names, z.2 = .local → scope.names.lookup z.1 = some .local) (hx : scope.names.lookup x = some .local)
    (hy : env.kindOf y = some .local) (hp : (env.scope.kind == .class || (env.scope.kind == .module && env.locals != env.globals)) = false)
    (h : wpAny (model prog w) (A₀.deeper env) (eval iter env) (fun xv s₁ => Hold (wpAny (model prog w) (A₀.deeper env) (pyIter xv) (SrcE prog w A₀ base outer h₀ L m env elt x scope cl (fun s₂ => FinA h₀ L m s₂ y Q) E) E s₁)) E s)
    (hs : ∀ x, foldedSetIterable iter env x = pure x) :
    wpAny (model prog w) (A₀.deeper env) (exec (.Assign [.Name y py] (.ListComp elt [⟨.Name x px, iter, [], 0⟩] scope pos) spos) env) Q E s := by
  subst hLe
  rw [exec_Assign_Name_used _ _ _ _ hsw]
  refine wpAny_bind (wpAny_standAt (wpAny_bind ?_))
  show wpAny _ _ (do let _ ← comprehension (.ListComp elt [⟨.Name x px, iter, [], 0⟩] scope pos) scope env _ (newList []) false (eval iter env) (some (assign (.Name y py) env))) _ _ s
  refine wpAny_bind (wpAny_mono (wpAny_comprehension_free (use := some (assign (.Name y py) env)) (Q := fun _ s' => Q .next s') rfl hs hclos hkind hnames
    (wpAny_mono h (fun xv s₁ h₁ => wpAny_mono h₁ (fun it s₂ h₂ => ?_) fun _ _ e => e) fun _ _ e => e)) (fun _ s' hq => wpAny_pure (wpAny_pure hq)) fun _ _ e => e)
  obtain ⟨I, fp, n, P, St, S, news, J, bad, rfl, W, hsz, hIo, hSt, hst, hfp, F, N, hIL, hI0, off, hS, hJ, turn, hfin, hbad⟩ := h₂
  refine block_E (RR := fun acc C => compPost (model prog w) (A₀.deeper env) E (some (assign (.Name y py) env)) (fun _ s' => Q .next s') acc C) K hf hek W hsz hIo hSt hcell hkind hx hst hfp F N hIL hI0 off hS hJ (fun i ys news v oI C oC D m₂ h tk B a1 a2 a3 a4 a5 a6 a7 a8 a9 a10 => turn i ys news v I oI C oC D m₂ h tk B a1 a2 a3 a4 a5 a6 a7 a8 a9 a10) ?_ ?_
  · intro D C h' tk m' ys news' F' N' o1 hn hC₀ hD₀ hCL hDL hCD offC hj
    show wpAny _ _ (assign (.Name y py) env (.ref D)) _ _ _
    refine wpAny_assign_Name (wpAny_storeName_local hy F'.ns (fun h₂ hn₂ hs₂ => ?_) hp)
    have hL₀ : h₀.get? env.locals = none := Heap.get?_none_of_le F'.above
    have F₂ : Fr h₀ env.locals h₂ (fun z => if z = y then some (.ref D) else m z) := ⟨hn₂, fun b o e => hs₂.extBut b o (fun q => by rw [q, hL₀] at e; cases e) (F'.keep b o e), F'.above⟩
    refine ⟨m', hn.sameBut hs₂ hCL, fun h'' hs'' => hfin ys news' hj D h'' _ (F₂.change hs'' hCL hC₀) (fun p hp => ?_) o1⟩
    have z : h₂.get? p.1 = some p.2 := hs₂.extBut _ _ (N' p hp).2.1 (N' p hp).1
    refine ⟨hs''.extBut _ _ ?_ z, (N' p hp).2⟩
    rcases List.mem_cons.mp hp with rfl | hp
    · exact Ne.symm hCD
    · exact offC p hp
  · intro D C i e p h tk m' hb hn hall
    refine ⟨m', hn, fun h' hs' cenv hce => ?_⟩
    obtain ⟨fl, sk⟩ := hall h' hs'.2
    exact flown_passes fl fun h'' fl' sk' => hbad i p e h'' tk hb fl' (sk.trans sk')
theorem srcE_range {Fin : Shared → List Value → List (Addr × Obj) → Prop} {news : List (Addr × Obj)} {r : Addr} {a b c : Int} {t u v : Tok} {n : Nat} (J : Nat → List Value → List (Addr × Obj) → Prop) (bad : Nat → Int → Prop)
    (hh : (A₀.deeper env).handled = none) (F : Fr h₀ L s.heap m) (N : News h₀ L s.heap news) (hr : IsRange s.heap r a b c t u v) (hsm : Builtin.Range.small a b c = true)
    (hn : Builtin.Range.rangeSize a b c = ((n : Nat) : Int)) (hz : n ≤ sizeLine) (hj : J 0 [] news)
    (turn : ∀ g, TurnE prog w A₀ env outer h₀ L m elt x scope cl (fun _ => True) (fun i v => ∃ t, v = .int (a + (i : Int) * c) t) { s with heap := g } n J bad)
    (fin : ∀ g ys nw, J n ys nw → Fin { s with heap := g } ys nw)
    (err : ∀ i p e h' tk', bad i p → Flown base (env :: outer) e p h' → SlotsKept h₀ h' → E (.ref e) { s with heap := h', toks := tk' }) :
    wpAny (model prog w) (A₀.deeper env) (pyIter (.ref r)) (SrcE prog w A₀ base outer h₀ L m env elt x scope cl Fin E) E s := by
  refine wpAny_pyIter_range hr hsm ?_
  refine ⟨s.heap.objs.size, [s.heap.objs.size], n, _, _, fun _ => True, news, J, bad, rfl, Walks.range hh s.heap.objs.size a c n, hz, fun i h st => ⟨_, st⟩, fun i h h' o nw st e e' _ _ _ => ?_, ?_, fun b hb => ?_,
    F.push _, fun p hp => ⟨Heap.get?_push_of_some _ (N p hp).1, (N p hp).2⟩, Nat.ne_of_lt F.ns.lt, next_is_new F, fun p hp => Nat.ne_of_lt (Heap.lt_size (N p hp).1), trivial, hj, turn _, fin _, err⟩
  · have st' : h.get? s.heap.objs.size = some _ := st
    show h'.get? s.heap.objs.size = some _
    rw [e', ← e]; exact st'
  · show IsRangeIter _ _ _ _ _
    rw [hn]; simpa using Heap.get?_push_size _ rfl
  · rw [List.mem_singleton.mp hb]
    show s.heap.objs.size < (s.heap.push _).objs.size
    rw [Heap.size_push]; exact Nat.lt_succ_self _
theorem srcE_tuple {Fin : Shared → List Value → List (Addr × Obj) → Prop} {news : List (Addr × Obj)} {ax : Addr} {ot : Obj} {its : Array Value} {k : Nat} (J : Nat → List Value → List (Addr × Obj) → Prop) (bad : Nat → Int → Prop)
    (hh : (A₀.deeper env).handled = none) (F : Fr h₀ L s.heap m) (N : News h₀ L s.heap news) (hm : (ax, ot) ∈ news) (hoc : ot.cls = .type "tuple") (hod : ot.data = .seq its k) (hz : its.size ≤ sizeLine) (hj : J 0 [] news)
    (turn : ∀ g, TurnE prog w A₀ env outer h₀ L m elt x scope cl (fun nw => (ax, ot) ∈ nw) (fun i v => its[i]? = some v) { s with heap := g } its.size J bad)
    (fin : ∀ g ys nw, J its.size ys nw → Fin { s with heap := g } ys nw)
    (err : ∀ i p e h' tk', bad i p → Flown base (env :: outer) e p h' → SlotsKept h₀ h' → E (.ref e) { s with heap := h', toks := tk' }) :
    wpAny (model prog w) (A₀.deeper env) (pyIter (.ref ax)) (SrcE prog w A₀ base outer h₀ L m env elt x scope cl Fin E) E s := by
  have ht : s.heap.IsTuple ax its := ⟨_, (N _ hm).1, hoc, k, hod⟩
  have hlt : ax < s.heap.objs.size := Heap.lt_size (N _ hm).1
  refine wpAny_pyIter_tuple ht ?_
  refine ⟨s.heap.objs.size, [s.heap.objs.size, ax], its.size, _, _, fun nw => (ax, ot) ∈ nw, news, J, bad, rfl, Walks.tuple hh s.heap.objs.size ax (Nat.ne_of_lt hlt) its, hz, fun i h st => by obtain ⟨o, e, _⟩ := st.1; exact ⟨o, e⟩, fun i h h' o nw st e e' hk hN hm' => ?_,
    ⟨⟨_, Heap.get?_push_size _ rfl, rfl, rfl⟩, ?_⟩, fun b hb => ?_, F.push _, fun p hp => ⟨Heap.get?_push_of_some _ (N p hp).1, (N p hp).2⟩, Nat.ne_of_lt F.ns.lt, next_is_new F, fun p hp => Nat.ne_of_lt (Heap.lt_size (N p hp).1), hm, hj, turn _, fin _, err⟩
  · refine ⟨?_, ⟨_, (hN _ hm').1, hoc, k, hod⟩⟩
    obtain ⟨o', q, r⟩ := st.1; rw [e] at q; cases q; exact ⟨o, e', r⟩
  · exact ⟨_, Heap.get?_push_of_some _ (N _ hm).1, hoc, k, hod⟩
  · show b < (s.heap.push _).objs.size
    rw [Heap.size_push]
    rcases List.mem_cons.mp hb with rfl | hb
    · exact Nat.lt_succ_self _
    · rw [List.mem_singleton.mp hb]; exact Nat.lt_succ_of_lt hlt
end
section
variable {w : World} {mean : ExcName → Option Value} {mg mb : Str → Option Value} {A : Around} {s : Shared} {E Q : Value → Shared → Prop}
    {name qual : Str} {params : Arguments} {body : List Stmt} {scope : Scope} {dV kV doc pm cdv ct oc : Value} {an od : Option Addr} {osl : Array (Option Value)} {f : Addr} {pos : List Value} {kw : List (Str × Value)} {binds : List (Str × Value)}
/-- a def with two cells is entered, and may raise -/
theorem enterC2R {x1 x2 : Str} {c1 c2 : Option Value} {lm : Str → Option Value}
    (X : (Mine.hd.heap_1_39 w.params).In s.heap) (T : Top Mine.hd.view_1_40 (looseW Mine.hd.view_1_40 [Str.ofString "PostError", Str.ofString "encoded"]) mean mg mb s.heap)
    (ho : (Mine.hd.heap_1_39 w.params).lookup f = some ⟨oc, od, .func (fnOf name qual params body scope dV kV doc pm an cdv ct), osl⟩) (hcd : codeIn (Mine.hd.heap_1_39 w.params) cdv qual = true) (hroom : A.depth < recursionLimit)
    (hbind : BindsTo s (fnOf name qual params body scope dV kV doc pm an cdv ct) ⟨pos, kw⟩ binds)
    (hkind : (binds.all fun y => scope.names.lookup y.1 == some .local || scope.names.lookup y.1 == some .cell) = true)
    (hnd : ((cellsFrom 0 scope.names []).map (·.1)).Nodup)
    (hcs : ∀ n, cellsFrom n scope.names [] = [(x1, n + 1), (x2, n)])
    (hlm : ∀ L', bindL (envOfC qual scope L' f cdv).kindOf binds (fun _ => none) = lm)
    (hc1 : ∀ L', bindC (envOfC qual scope L' f cdv).kindOf binds (fun _ => none) x1 = c1)
    (hc2 : ∀ L', bindC (envOfC qual scope L' f cdv).kindOf binds (fun _ => none) x2 = c2)
    (h : ∀ L' h₁ tk o1 o2, Fr s.heap L' h₁ lm → News s.heap L' h₁ [(L' + 1 + 1, o1), (L' + 1, o2)] → o1.data = .cell c1 → o2.data = .cell c2 →
      wpAny (model PySem.Challenge.rw_no0352_01.row.prog w) (A.deeper (envOfC qual scope L' f cdv)) (execs body (envOfC qual scope L' f cdv))
        (fun fl s' => Q (match fl with | .ret v => v | _ => .none) s') (Leaves (model PySem.Challenge.rw_no0352_01.row.prog w) (A.deeper (envOfC qual scope L' f cdv)) (envOfC qual scope L' f cdv) E)
        { s with heap := h₁, toks := tk })
    (hco : scope.isCoroutine = false) (hgen : scope.isGenerator = false) (hk : scope.kind = .function) :
    wpAny (model PySem.Challenge.rw_no0352_01.row.prog w) A (call (.ref f) pos kw) Q E s := by
  refine wpAny_call (codeAny_call_function hroom (X _ _ ho) rfl hco hgen rfl (codeRec_of X hcd) (hbind _ _ _ _ ?_))
  refine wpAny_newFunctionEnv_cells hk (kindsX hkind _) fun env' he s' x => ?_
  subst he
  refine ⟨T.nolimit.keeps x.toInCall.keep, codeAny_func ?_⟩
  obtain ⟨h₁, tk, rfl, _⟩ := x.done
  have hk₁ := x.toInCall.keep
  obtain ⟨cells, NC, Y⟩ := Cl.news (h₀ := s.heap) (Nat.le_refl _) fun n c hm => ⟨x.cell n c (lookup_of_mem_nodup (cellsFrom_names scope.names 0 (s.heap.objs.size + 1) [] [] rfl ▸ hnd) hm), x.above n c hm⟩
  have F : Fr s.heap s.heap.objs.size h₁ (bindL (envOfC qual scope s.heap.objs.size f cdv).kindOf binds fun _ => none) := ⟨x.toInCall.ns, hk₁, Nat.le_refl _⟩
  have Y' : CellsAre (bindC (envOfC qual scope s.heap.objs.size f cdv).kindOf binds fun _ => none) (cellsFrom (s.heap.objs.size + 1) scope.names []) cells := Y
  rw [hcs] at Y'
  obtain ⟨o1, o2, hE, d1, d2⟩ := CellsAre.two Y'
  subst hE
  rw [hlm] at F
  rw [hc1] at d1
  rw [hc2] at d2
  exact h s.heap.objs.size h₁ tk o1 o2 F (by simpa using NC) d1 d2
end
end Mine
end
section
set_option maxRecDepth 100000
namespace Mine
section
local macro_rules | `(tactic| walk_at "eval ListComp") => `(tactic| walk_at "Z1")
local macro_rules | `(tactic| walk_at "exec Assign cons ListComp") => `(tactic| walk_at "Z2")
local macro_rules | `(tactic| walk_at "exec For Name Name cons nil") => `(tactic| walk_at "Z3")
local macro_rules | `(tactic| walk_at "exec For Name Call cons nil") => `(tactic| walk_at "Z3")
local macro_rules | `(tactic| walk_at "binaryOp BitAnd int int") => `(tactic| (with_reducible first | refine and63 ?_ | refine and255 ?_))
local macro_rules | `(tactic| walk_at "subscriptTail") => `(tactic| walk_at "Z6")
local macro_rules | `(tactic| walk_at "call builtin:len") => `(tactic| walk_at "Z5")
local macro_rules | `(tactic| walk_at "exec Raise some none") => `(tactic| (k_here; refine Raise_fault rfl ?_))
local macro_rules | `(tactic| walk_at "eval Call") => `(tactic| (with_unfolding_all refine Call_ ?_))
local macro_rules | `(tactic| walk_at "eval ListComp") => `(tactic| (k_here; (rename Fr _ _ _ _ => lF'); (rename Below _ _ _ _ => lK'); (refine' ListComp_E lK' lF' ?hf ?hek ?hclos ?hcell ?hkind ?hnames ?hx ?_ ?hs); (case hf => with_unfolding_all rfl); (case hek => with_unfolding_all rfl); (case hclos => with_unfolding_all rfl); (case hcell => decide); (case hkind => with_unfolding_all rfl); (case hnames => decide); (case hx => with_unfolding_all rfl); (case hs => intro _; with_unfolding_all rfl)))
local macro_rules | `(tactic| walk_at "exec Assign cons ListComp") => `(tactic| (k_here; (rename Fr _ _ _ _ => lF'); (rename Below _ _ _ _ => lK'); (refine' Assign_ListComp_E lK' lF' ?hf ?hek ?hLe ?hsw ?hclos ?hcell ?hkind ?hnames ?hx ?hy ?hp ?_ ?hs); (case hf => with_unfolding_all rfl); (case hek => with_unfolding_all rfl); (case hLe => with_unfolding_all rfl); (case hsw => with_unfolding_all rfl); (case hclos => with_unfolding_all rfl); (case hcell => decide); (case hkind => with_unfolding_all rfl); (case hnames => decide); (case hx => with_unfolding_all rfl); (case hy => with_unfolding_all rfl); (case hp => with_unfolding_all rfl); (case hs => intro _; with_unfolding_all rfl)))
def finR (ks : List Int) (b : Int) (row : List Int) (pads : Int) : Except Int (List Int) := if 0 < goS row row.length then .error (b + 3 - pads) else match endR ks b pads with | .error p => .error p | .ok _ => .ok (goX row)
/-- the worths of the first i signs -/
def seqR (ks : List Int) (b : Int) : Nat → Except Int (List Int)
  | 0 => .ok []
  | i + 1 => match seqR ks b i with
    | .error p => .error p
    | .ok ns => match numR ks (b + i) with
      | .error p => .error p
      | .ok n => .ok (ns ++ [n])
/-- what strict_group gives -/
def grpR (ks : List Int) (b : Int) : Except Int (List Int) :=
  match seqR ks b 2 with
  | .error p => .error p
  | .ok row => if padB ks (b + 2) then finR ks b row 2 else match numR ks (b + 2) with
      | .error p => .error p
      | .ok d => if padB ks (b + 3) then finR ks b (row ++ [d]) 1 else match numR ks (b + 3) with
        | .error p => .error p
        | .ok e => finR ks b (row ++ [d] ++ [e]) 0
theorem numR_range {ks : List Int} {a n : Int} (h : numR ks a = .ok n) : 0 ≤ n ∧ n < 64 := by
  unfold numR at h
  split at h
  · cases h
  · split at h
    · cases h
    · rename_i hm
      injection h with h
      have := List.idxOf_lt_length_of_mem (Decidable.not_not.mp hm)
      rw [sgn_length] at this
      (first | lia | omega)
theorem seqR_err {ks : List Int} {b p : Int} {i n : Nat} (h : seqR ks b i = .error p) (hn : i ≤ n) : seqR ks b n = .error p := by
  induction n with
  | zero => rw [show i = 0 by (first | lia | omega)] at h; exact h
  | succ n ih =>
    rcases Nat.lt_or_ge n i with h1 | h1
    · rw [show n + 1 = i by (first | lia | omega)]; exact h
    · unfold seqR; rw [ih h1]
theorem seqR_range {ks : List Int} {b : Int} : ∀ {i : Nat} {ns : List Int}, seqR ks b i = .ok ns → ns.length = i ∧ ∀ k ∈ ns, 0 ≤ k ∧ k < 64 := by
  intro i
  induction i with
  | zero => intro ns h; unfold seqR at h; injection h with h; subst h; exact ⟨rfl, fun k hk => nomatch hk⟩
  | succ i ih =>
    intro ns h
    unfold seqR at h
    split at h
    · cases h
    · rename_i r hr
      split at h
      · cases h
      · rename_i n hn
        injection h with h
        subst h
        obtain ⟨l1, l2⟩ := ih hr
        refine ⟨by simp [l1], fun k hk => ?_⟩
        rcases List.mem_append.mp hk with hk | hk
        · exact l2 k hk
        · rw [List.mem_singleton.mp hk]; exact numR_range hn
set_option maxHeartbeats 8000000 in
theorem strict_group_spec {w : World} {mean : ExcName → Option Value} {mg mb : Str → Option Value} {dp un : Nat} {gd : Option (List Code)} {outer : List Env} {base : Heap} {s : Shared} {E Q : Value → Shared → Prop}
    {b : Array UInt8} {ks : List Int} {bg : Int} {tb ta : Tok} {W : Addr} {f : Int → Option Value}
    (X : (Mine.hd.heap_1_39 w.params).In s.heap) (T : Top Mine.hd.view_1_40 (looseW Mine.hd.view_1_40 [Str.ofString "PostError", Str.ofString "encoded"]) mean mg mb s.heap) (K : Below (Ar dp un gd (some outer)) base outer s.heap) (hdp : dp + 50 < recursionLimit) (hun : un + 500 < cLine)
    (hb : KBw.bInts b = ks) (hl : ks.length ≤ 1000) (h0 : 0 ≤ bg) (h1 : bg ≤ 1000) (hw : s.heap.IntMap W f) (hwf : WorthMap SGN f)
    (ret : ∀ r c t h' tk', grpR ks bg = .ok r → (∀ b o, s.heap.get? b = some o → h'.get? b = some o) → KBw.bInts c = r → Q (.bytes c t) { s with heap := h', toks := tk' })
    (err : ∀ p e h' tk', grpR ks bg = .error p → Flown base outer e p h' → SlotsKept s.heap h' → E (.ref e) { s with heap := h', toks := tk' }) :
    wpAny (model PySem.Challenge.rw_no0352_01.row.prog w) (Ar dp un gd (some outer)) (call (.ref 136) [.bytes b tb, .int bg ta, .ref W]) Q E s := by
  revert X; k_fill; intro X
  refine' enterC2R (binds := [(Str.ofString "data", .bytes b tb), (Str.ofString "begin", .int bg ta), (Str.ofString "worths", .ref W)]) (x1 := Str.ofString "worths") (x2 := Str.ofString "data") (c1 := some (.ref W)) (c2 := some (.bytes b tb)) (lm := fun y => if y = Str.ofString "begin" then some (.int bg ta) else none) X T ?k6 ?k7 ?k8 ?k9 ?kB ?kD ?kc ?kl ?hc1 ?hc2 ?_ ?c2 ?c3 ?c4; (case k6 => k_is); (case k7 => k_is); (case k8 => (simp only [recursionLimit] at *; (first | lia | omega))); (case k9 => exact BindsTo.of_eq rfl); (case kB => exact rfl); (case kD => decide +kernel); (case kc => intro _; rfl); (case kl => intro _; rfl); (case hc1 => intro _; rfl); (case hc2 => intro _; rfl); (case c2 => exact rfl); (case c3 => exact rfl); (case c4 => exact rfl)
  intro L' h' tk' o1 o2 F' N' d1 d2
  try dsimp only
  try k_fold
  have hbs : (b.size : Int) = (ks.length : Nat) := by rw [← KBw.ints_length, hb]
  k_steps
  rename Fr _ _ _ _ => F0
  rename News _ _ _ _ => N0
  rename _ ∧ _ => lt0
  rename Below _ _ _ _ => K
  rename_i Dt _
  show wpAny _ _ (pyIter _) _ _ _
  refine srcE_tuple (fun i ys nw => nw = [(Dt, _), (L' + 1 + 1, o1), (L' + 1, o2)] ∧ ∃ ns, IntsAre ys ns ∧ seqR ks bg i = .ok ns) (fun i p => i < 2 ∧ seqR ks bg (i + 1) = .error p) rfl F0 N0 (.head _) rfl rfl (by show 2 ≤ _; rw [sizeLine_eq]; (first | lia | omega)) ⟨rfl, [], .nil, rfl⟩ (fun g => ?turn) (fun g ys nw hj => ?fin) ?err
  case turn =>
    clear F0 N0
    rintro i ys nw v I oI C oC D m₂ hh tk B hi ⟨rfl, ns, hys, hseq⟩ hv hC hx F₂ N₂ off ne K₂
    have hv' : ∃ t, v = .int (bg + i) t := by
      have hi' : i < 2 := hi
      rcases (by (first | lia | omega) : i = 0 ∨ i = 1) with rfl | rfl
      · exact ⟨_, by simpa using hv.symm⟩
      · exact ⟨_, by simpa using hv.symm⟩
    have hi2 : i < 2 := hi
    obtain ⟨tv, rfl⟩ := hv'
    (try k_fold)
    k_steps
    refine' strict_number_spec (Frag.In.keeps X F₂.keep) (T.keeps F₂.keep) K₂ ?hdp ?hun hb hl (by (first | lia | omega)) (by (first | lia | omega)) (IntMap.keeps hw F₂.keep) hwf ?eret ?eerr
    case hdp => simp only [recursionLimit] at *; (first | lia | omega)
    case hun => (have := cLine_is; show un + 3 + _ < _; (first | lia | omega))
    case eret =>
      intro n t h3 tk3 hnum hk3
      refine LCg.CompEnd.intro (F₂.keeps hk3) (N₂.grown hk3) [(Dt, _), (L' + 1 + 1, o1), (L' + 1, o2)] (fun _ h => h) off (.head _) ⟨rfl, ns ++ [n], ints_push hys, ?_⟩
      unfold seqR
      rw [hseq]
      dsimp only
      rw [hnum]
    case eerr =>
      intro p e h3 tk3 hnum fl sk
      refine ⟨e, p, h3, tk3, rfl, rfl, ⟨hi2, ?_⟩, fl, sk⟩
      unfold seqR
      rw [hseq]
      dsimp only
      rw [hnum]
  case fin =>
    obtain ⟨rfl, ns, hys, hseq⟩ := hj
    replace hseq : seqR ks bg 2 = .ok ns := hseq
    obtain ⟨hnl, hnr⟩ := seqR_range hseq
    intro D hh tk F₂ N₂ off
    (try dsimp only)
    (try k_fold)
    k_steps
    rename Fr _ _ _ _ => Fc
    rename News _ _ _ _ => Nc
    refine' is_pad_spec (Frag.In.keeps X Fc.keep) (T.keeps Fc.keep) ?hdp ?hun hb hl (by (first | lia | omega)) (by (first | lia | omega)) ?p1
    case hdp => simp only [recursionLimit] at *; (first | lia | omega)
    case hun => (have := cLine_is; show un + 3 + _ < _; (first | lia | omega))
    case p1 =>
    intro hh2 tk2 hk2
    have Fd := Fc.keeps hk2
    have Nd := Nc.grown hk2
    clear Fc Nc
    (try dsimp only)
    (try k_fold)
    k_steps
    · rename padB _ _ = true => hp1
      have hrl := hnl
      have hfin : grpR ks bg = finR ks bg ns 2 := by unfold grpR; rw [hseq]; dsimp only; rw [if_pos hp1]
      rename Fr _ _ _ _ => Fc
      rename News _ _ _ _ => Nc
      rename IntsAre _ _ => hrow
      refine' group_octets_spec (Frag.In.keeps X Fc.keep) (T.keeps Fc.keep) ?hdp ?hun (News.isList Nc (.head _)) hrow (by assumption) (by assumption) (by (first | lia | omega)) (by (first | lia | omega)) ?tl
      case hdp => simp only [recursionLimit] at *; (first | lia | omega)
      case hun => (have := cLine_is; show un + 3 + _ < _; (first | lia | omega))
      case tl =>
      intro D1 b1 t1 x1 u1 hh1 tk1 hk1 hD1 hg1 hb1 hx1
      have Fd := Fc.keeps hk1
      have Nd := news_more Fc Nc hk1 hD1 hg1
      clear Fc Nc
      (try dsimp only)
      (try k_fold)
      k_steps
      · rename 0 < _ => hsp
        rename Fr _ _ _ _ => Fc
        refine' fault_spec (Frag.In.keeps X Fc.keep) (T.keeps Fc.keep) ?hdp ?hun ?ret
        case hdp => simp only [recursionLimit] at *; (first | lia | omega)
        case hun => (have := cLine_is; show un + 3 + _ < _; (first | lia | omega))
        case ret =>
        intro h2 tk2 e t2 d2 m2 k1 k2 k3 k4 k5 k6 k7
        refine ⟨e, t2, d2, rfl, fault_cls ((Frag.In.keeps X Fc.keep).keeps k1), k3, ?_⟩
        show Leaves _ _ _ _ _ _
        exact fault_leaves K Fc k1 k2 k3 k5 k6.ns k7 rfl rfl fun h9 R9 S9 => err _ e h9 _ (by rw [hfin]; unfold finR; rw [hrl, if_pos (by rw [← hx1]; exact hsp)]) R9 S9
      · rename ¬ 0 < _ => hsp
        (try clear Fd Nd)
        rename Fr _ _ _ _ => Fc
        rename News _ _ _ _ => Nc
        refine' check_end_spec (Frag.In.keeps X Fc.keep) (T.keeps Fc.keep) (below_push K Fc rfl rfl) ?hdp ?hun hb hl (by (first | lia | omega)) (by (first | lia | omega)) ?cr ?ce
        case hdp => simp only [recursionLimit] at *; (first | lia | omega)
        case hun => (have := cLine_is; show un + 3 + _ < _; (first | lia | omega))
        case cr =>
          intro hh3 tk3 hend hk3
          have Fd := Fc.keeps hk3
          have Nd := Nc.grown hk3
          clear Fc Nc
          (try dsimp only)
          (try k_fold)
          k_steps
          rename Fr _ _ _ _ => Fx
          exact ret _ b1 _ _ _ (by rw [hfin]; unfold finR; rw [hrl, if_neg (by rw [← hx1]; exact hsp), hend]) Fx.keep (by rw [hb1]; unfold goX; rw [hrl])
        case ce =>
          intro p e h9 tk9 hend fl sk
          show Leaves _ _ _ _ _ _
          exact flown_leaves K fl ((SlotsKept.of_keeps Fc.keep).trans sk) rfl fun h10 fl' sk' => err p e h10 _ (by rw [hfin]; unfold finR; rw [hrl, if_neg (by rw [← hx1]; exact hsp), hend]) fl' sk'
    · rename padB _ _ = false => hp1
      rename Fr _ _ _ _ => Fc
      rename News _ _ _ _ => Nc
      refine' strict_number_spec (Frag.In.keeps X Fc.keep) (T.keeps Fc.keep) (below_push K Fc rfl rfl) ?hdp ?hun hb hl (by (first | lia | omega)) (by (first | lia | omega)) (IntMap.keeps hw Fc.keep) hwf ?nrn1 ?nen1
      case hdp => simp only [recursionLimit] at *; (first | lia | omega)
      case hun => (have := cLine_is; show un + 3 + _ < _; (first | lia | omega))
      case nen1 =>
        intro p e h9 tk9 hnum1 fl sk
        show Leaves _ _ _ _ _ _
        exact flown_leaves K fl ((SlotsKept.of_keeps Fc.keep).trans sk) rfl fun h10 fl' sk' => err p e h10 _ (by unfold grpR; rw [hseq]; dsimp only; rw [if_neg (by rw [hp1]; decide), hnum1]) fl' sk'
      case nrn1 =>
      intro n1 tnn1 hh3 tk3 hnum1 hk3
      have Fd := Fc.keeps hk3
      have Nd := Nc.grown hk3
      clear Fc Nc
      (try dsimp only)
      (try k_fold)
      k_steps
      rename Fr _ _ _ _ => Fe
      rename News _ _ _ _ => Ne
      have hyl9 := IntsAre.length hys
      refine append_in (own := []) (hsz := ?hsz) (x := .int n1 tnn1) Fe Ne apart_nil (apart_cons off.1 (apart_cons off.2.1 (apart_cons off.2.2.1 apart_nil))) (fun h9 F9 N9 => ?_)
      case hsz =>
        have := seqR_range hseq
        simp only [List.length_append, List.length_singleton] at *
        rw [sizeLine_eq]; (first | lia | omega)
      clear hyl9
      have hy2 := ints_push (k := n1) (t := tnn1) hys
      simp only [List.nil_append] at N9
      clear Fe Ne
      (try clear Fd Nd)
      (try dsimp only)
      (try k_fold)
      k_steps
      rename Fr _ _ _ _ => Fc
      rename News _ _ _ _ => Nc
      refine' is_pad_spec (Frag.In.keeps X Fc.keep) (T.keeps Fc.keep) ?hdp ?hun hb hl (by (first | lia | omega)) (by (first | lia | omega)) ?p2
      case hdp => simp only [recursionLimit] at *; (first | lia | omega)
      case hun => (have := cLine_is; show un + 3 + _ < _; (first | lia | omega))
      case p2 =>
      intro hh2 tk2 hk2
      have Fd := Fc.keeps hk2
      have Nd := Nc.grown hk2
      clear Fc Nc
      (try dsimp only)
      (try k_fold)
      k_steps
      · rename padB _ (bg + 3) = true => hp2
        have hrl : (ns ++ [n1]).length = 3 := by simp [hnl]
        have hnr2 : ∀ k ∈ ns ++ [n1], 0 ≤ k ∧ k < 64 := fun k hk => by
          rcases List.mem_append.mp hk with hk | hk
          · exact hnr k hk
          · rw [List.mem_singleton.mp hk]; exact numR_range hnum1
        have hfin : grpR ks bg = finR ks bg (ns ++ [n1]) 1 := by unfold grpR; rw [hseq]; dsimp only; rw [if_neg (by rw [hp1]; decide), hnum1]; dsimp only; rw [if_pos hp2]
        rename Fr _ _ _ _ => Fc
        rename News _ _ _ _ => Nc
        rename IntsAre _ _ => hrow
        refine' group_octets_spec (Frag.In.keeps X Fc.keep) (T.keeps Fc.keep) ?hdp ?hun (News.isList Nc (.head _)) hrow (by assumption) (by assumption) (by (first | lia | omega)) (by (first | lia | omega)) ?tl
        case hdp => simp only [recursionLimit] at *; (first | lia | omega)
        case hun => (have := cLine_is; show un + 3 + _ < _; (first | lia | omega))
        case tl =>
        intro D1 b1 t1 x1 u1 hh1 tk1 hk1 hD1 hg1 hb1 hx1
        have Fd := Fc.keeps hk1
        have Nd := news_more Fc Nc hk1 hD1 hg1
        clear Fc Nc
        (try dsimp only)
        (try k_fold)
        k_steps
        · rename 0 < _ => hsp
          rename Fr _ _ _ _ => Fc
          refine' fault_spec (Frag.In.keeps X Fc.keep) (T.keeps Fc.keep) ?hdp ?hun ?ret
          case hdp => simp only [recursionLimit] at *; (first | lia | omega)
          case hun => (have := cLine_is; show un + 3 + _ < _; (first | lia | omega))
          case ret =>
          intro h2 tk2 e t2 d2 m2 k1 k2 k3 k4 k5 k6 k7
          refine ⟨e, t2, d2, rfl, fault_cls ((Frag.In.keeps X Fc.keep).keeps k1), k3, ?_⟩
          show Leaves _ _ _ _ _ _
          exact fault_leaves K Fc k1 k2 k3 k5 k6.ns k7 rfl rfl fun h9 R9 S9 => err _ e h9 _ (by rw [hfin]; unfold finR; rw [hrl, if_pos (by rw [← hx1]; exact hsp)]) R9 S9
        · rename ¬ 0 < _ => hsp
          (try clear Fd Nd)
          rename Fr _ _ _ _ => Fc
          rename News _ _ _ _ => Nc
          refine' check_end_spec (Frag.In.keeps X Fc.keep) (T.keeps Fc.keep) (below_push K Fc rfl rfl) ?hdp ?hun hb hl (by (first | lia | omega)) (by (first | lia | omega)) ?cr ?ce
          case hdp => simp only [recursionLimit] at *; (first | lia | omega)
          case hun => (have := cLine_is; show un + 3 + _ < _; (first | lia | omega))
          case cr =>
            intro hh3 tk3 hend hk3
            have Fd := Fc.keeps hk3
            have Nd := Nc.grown hk3
            clear Fc Nc
            (try dsimp only)
            (try k_fold)
            k_steps
            rename Fr _ _ _ _ => Fx
            exact ret _ b1 _ _ _ (by rw [hfin]; unfold finR; rw [hrl, if_neg (by rw [← hx1]; exact hsp), hend]) Fx.keep (by rw [hb1]; unfold goX; rw [hrl])
          case ce =>
            intro p e h9 tk9 hend fl sk
            show Leaves _ _ _ _ _ _
            exact flown_leaves K fl ((SlotsKept.of_keeps Fc.keep).trans sk) rfl fun h10 fl' sk' => err p e h10 _ (by rw [hfin]; unfold finR; rw [hrl, if_neg (by rw [← hx1]; exact hsp), hend]) fl' sk'
      · rename padB _ (bg + 3) = false => hp2
        rename Fr _ _ _ _ => Fc
        rename News _ _ _ _ => Nc
        refine' strict_number_spec (Frag.In.keeps X Fc.keep) (T.keeps Fc.keep) (below_push K Fc rfl rfl) ?hdp ?hun hb hl (by (first | lia | omega)) (by (first | lia | omega)) (IntMap.keeps hw Fc.keep) hwf ?nrn2 ?nen2
        case hdp => simp only [recursionLimit] at *; (first | lia | omega)
        case hun => (have := cLine_is; show un + 3 + _ < _; (first | lia | omega))
        case nen2 =>
          intro p e h9 tk9 hnum2 fl sk
          show Leaves _ _ _ _ _ _
          exact flown_leaves K fl ((SlotsKept.of_keeps Fc.keep).trans sk) rfl fun h10 fl' sk' => err p e h10 _ (by unfold grpR; rw [hseq]; dsimp only; rw [if_neg (by rw [hp1]; decide), hnum1]; dsimp only; rw [if_neg (by rw [hp2]; decide), hnum2]) fl' sk'
        case nrn2 =>
        intro n2 tnn2 hh3 tk3 hnum2 hk3
        have Fd := Fc.keeps hk3
        have Nd := Nc.grown hk3
        clear Fc Nc
        (try dsimp only)
        (try k_fold)
        k_steps
        rename Fr _ _ _ _ => Fe
        rename News _ _ _ _ => Ne
        have hyl9 := IntsAre.length hy2
        refine append_in (own := []) (hsz := ?hsz) (x := .int n2 tnn2) Fe Ne apart_nil (apart_cons off.1 (apart_cons off.2.1 (apart_cons off.2.2.1 apart_nil))) (fun h9 F9 N9 => ?_)
        case hsz =>
          have := seqR_range hseq
          simp only [List.length_append, List.length_singleton] at *
          rw [sizeLine_eq]; (first | lia | omega)
        clear hyl9
        have hy3 := ints_push (k := n2) (t := tnn2) hy2
        simp only [List.nil_append] at N9
        clear Fe Ne
        (try clear Fd Nd)
        (try dsimp only)
        (try k_fold)
        k_steps
        have hrl : (ns ++ [n1] ++ [n2]).length = 4 := by simp [hnl]
        have hnr2 : ∀ k ∈ ns ++ [n1] ++ [n2], 0 ≤ k ∧ k < 64 := fun k hk => by
          rcases List.mem_append.mp hk with hk | hk
          · rcases List.mem_append.mp hk with hk | hk
            · exact hnr k hk
            · rw [List.mem_singleton.mp hk]; exact numR_range hnum1
          · rw [List.mem_singleton.mp hk]; exact numR_range hnum2
        have hfin : grpR ks bg = finR ks bg (ns ++ [n1] ++ [n2]) 0 := by unfold grpR; rw [hseq]; dsimp only; rw [if_neg (by rw [hp1]; decide), hnum1]; dsimp only; rw [if_neg (by rw [hp2]; decide), hnum2]
        rename Fr _ _ _ _ => Fc
        rename News _ _ _ _ => Nc
        rename IntsAre _ _ => hrow
        refine' group_octets_spec (Frag.In.keeps X Fc.keep) (T.keeps Fc.keep) ?hdp ?hun (News.isList Nc (.head _)) hrow (by assumption) (by assumption) (by (first | lia | omega)) (by (first | lia | omega)) ?tl
        case hdp => simp only [recursionLimit] at *; (first | lia | omega)
        case hun => (have := cLine_is; show un + 3 + _ < _; (first | lia | omega))
        case tl =>
        intro D1 b1 t1 x1 u1 hh1 tk1 hk1 hD1 hg1 hb1 hx1
        have Fd := Fc.keeps hk1
        have Nd := news_more Fc Nc hk1 hD1 hg1
        clear Fc Nc
        (try dsimp only)
        (try k_fold)
        k_steps
        · rename 0 < _ => hsp
          rename Fr _ _ _ _ => Fc
          refine' fault_spec (Frag.In.keeps X Fc.keep) (T.keeps Fc.keep) ?hdp ?hun ?ret
          case hdp => simp only [recursionLimit] at *; (first | lia | omega)
          case hun => (have := cLine_is; show un + 3 + _ < _; (first | lia | omega))
          case ret =>
          intro h2 tk2 e t2 d2 m2 k1 k2 k3 k4 k5 k6 k7
          refine ⟨e, t2, d2, rfl, fault_cls ((Frag.In.keeps X Fc.keep).keeps k1), k3, ?_⟩
          show Leaves _ _ _ _ _ _
          exact fault_leaves K Fc k1 k2 k3 k5 k6.ns k7 rfl rfl fun h9 R9 S9 => err _ e h9 _ (by rw [hfin]; unfold finR; rw [hrl, if_pos (by rw [← hx1]; exact hsp)]) R9 S9
        · rename ¬ 0 < _ => hsp
          (try clear Fd Nd)
          rename Fr _ _ _ _ => Fc
          rename News _ _ _ _ => Nc
          refine' check_end_spec (Frag.In.keeps X Fc.keep) (T.keeps Fc.keep) (below_push K Fc rfl rfl) ?hdp ?hun hb hl (by (first | lia | omega)) (by (first | lia | omega)) ?cr ?ce
          case hdp => simp only [recursionLimit] at *; (first | lia | omega)
          case hun => (have := cLine_is; show un + 3 + _ < _; (first | lia | omega))
          case cr =>
            intro hh3 tk3 hend hk3
            have Fd := Fc.keeps hk3
            have Nd := Nc.grown hk3
            clear Fc Nc
            (try dsimp only)
            (try k_fold)
            k_steps
            rename Fr _ _ _ _ => Fx
            exact ret _ b1 _ _ _ (by rw [hfin]; unfold finR; rw [hrl, if_neg (by rw [← hx1]; exact hsp), hend]) Fx.keep (by rw [hb1]; unfold goX; rw [hrl])
          case ce =>
            intro p e h9 tk9 hend fl sk
            show Leaves _ _ _ _ _ _
            exact flown_leaves K fl ((SlotsKept.of_keeps Fc.keep).trans sk) rfl fun h10 fl' sk' => err p e h10 _ (by rw [hfin]; unfold finR; rw [hrl, if_neg (by rw [← hx1]; exact hsp), hend]) fl' sk'
  case err =>
    intro i p e h9 tk9 hbad fl sk
    show Leaves _ _ _ _ _ _
    refine flown_leaves K fl sk rfl fun h10 fl' sk' => err p e h10 _ ?_ fl' sk'
    obtain ⟨hi2, hse⟩ := hbad
    have := seqR_err hse (show i + 1 ≤ 2 by (first | lia | omega))
    unfold grpR
    rw [this]
end
end Mine
end
theorem Mine.quiet_C136 : True := by w_top off; trivial
local macro_rules | `(tactic| walk_at "Z11") => `(tactic| (k_here; (rename Fr _ _ _ _ => lF'); (rename Below _ _ _ _ => lK'); (refine' ListComp_E lK' lF' ?hf ?hek ?hclos ?hcell ?hkind ?hnames ?hx ?_ ?hs); (case hf => with_unfolding_all rfl); (case hek => with_unfolding_all rfl); (case hclos => with_unfolding_all rfl); (case hcell => decide); (case hkind => with_unfolding_all rfl); (case hnames => decide); (case hx => with_unfolding_all rfl); (case hs => intro _; with_unfolding_all rfl)))
local macro_rules | `(tactic| walk_at "Z12") => `(tactic| (k_here; (rename Fr _ _ _ _ => lF'); (rename Below _ _ _ _ => lK'); (refine' Assign_ListComp_E lK' lF' ?hf ?hek ?hLe ?hsw ?hclos ?hcell ?hkind ?hnames ?hx ?hy ?hp ?_ ?hs); (case hf => with_unfolding_all rfl); (case hek => with_unfolding_all rfl); (case hLe => with_unfolding_all rfl); (case hsw => with_unfolding_all rfl); (case hclos => with_unfolding_all rfl); (case hcell => decide); (case hkind => with_unfolding_all rfl); (case hnames => decide); (case hx => with_unfolding_all rfl); (case hy => with_unfolding_all rfl); (case hp => with_unfolding_all rfl); (case hs => intro _; with_unfolding_all rfl)))
section
set_option maxRecDepth 100000
namespace Mine
section
local macro_rules | `(tactic| walk_at "eval ListComp") => `(tactic| walk_at "Z1")
local macro_rules | `(tactic| walk_at "exec Assign cons ListComp") => `(tactic| walk_at "Z2")
local macro_rules | `(tactic| walk_at "exec For Name Name cons nil") => `(tactic| walk_at "Z3")
local macro_rules | `(tactic| walk_at "exec For Name Call cons nil") => `(tactic| walk_at "Z3")
local macro_rules | `(tactic| walk_at "binaryOp BitAnd int int") => `(tactic| (with_reducible first | refine and63 ?_ | refine and255 ?_))
local macro_rules | `(tactic| walk_at "subscriptTail") => `(tactic| walk_at "Z6")
local macro_rules | `(tactic| walk_at "call builtin:len") => `(tactic| walk_at "Z5")
local macro_rules | `(tactic| walk_at "getMethod bytes") => `(tactic| walk_at "Z8")
local macro_rules | `(tactic| walk_at "compareOp In int bytes") => `(tactic| walk_at "Z9")
local macro_rules | `(tactic| walk_at "exec Raise some none") => `(tactic| (k_here; refine Raise_fault rfl ?_))
local macro_rules | `(tactic| walk_at "eval Call") => `(tactic| (with_unfolding_all refine Call_ ?_))
local macro_rules | `(tactic| walk_at "eval ListComp") => `(tactic| walk_at "Z11")
local macro_rules | `(tactic| walk_at "exec Assign cons ListComp") => `(tactic| walk_at "Z12")
/-- the octets of the first i groups -/
def grpsR (ks : List Int) : Nat → Except Int (List (List Int))
  | 0 => .ok []
  | i + 1 => match grpsR ks i with
    | .error p => .error p
    | .ok gs => match grpR ks (4 * i) with
      | .error p => .error p
      | .ok g => .ok (gs ++ [g])
/-- what strict_decoded gives -/
def sdR (ks : List Int) : Except Int (List Int) :=
  match grpsR ks ((ks.length + 3) / 4) with
  | .error p => .error p
  | .ok gs => .ok (joinL [] gs)
theorem grpsR_err {ks : List Int} {p : Int} {i n : Nat} (h : grpsR ks i = .error p) (hn : i ≤ n) : grpsR ks n = .error p := by
  induction n with
  | zero => rw [show i = 0 by (first | lia | omega)] at h; exact h
  | succ n ih =>
    rcases Nat.lt_or_ge n i with h1 | h1
    · rw [show n + 1 = i by (first | lia | omega)]; exact h
    · unfold grpsR; rw [ih h1]
theorem finR_length {ks : List Int} {b pads : Int} {row g : List Int} (h : finR ks b row pads = .ok g) (hr : row.length ≤ 4) : g.length ≤ 3 := by
  unfold finR at h
  split at h
  · cases h
  · split at h
    · cases h
    · injection h with h
      rw [← h, goX_length]; (first | lia | omega)
theorem grpR_length {ks : List Int} {b : Int} {g : List Int} (h : grpR ks b = .ok g) : g.length ≤ 3 := by
  unfold grpR at h
  split at h
  · cases h
  · rename_i row hs
    have hl := (seqR_range hs).1
    split at h
    · exact finR_length h (by (first | lia | omega))
    · split at h
      · cases h
      · split at h
        · exact finR_length h (by simp [hl])
        · split at h
          · cases h
          · exact finR_length h (by simp [hl])
theorem grpsR_length {ks : List Int} : ∀ {i : Nat} {gs : List (List Int)}, grpsR ks i = .ok gs → gs.length = i ∧ ∀ g ∈ gs, g.length ≤ 3 := by
  intro i
  induction i with
  | zero => intro gs h; unfold grpsR at h; injection h with h; subst h; exact ⟨rfl, fun g hg => nomatch hg⟩
  | succ i ih =>
    intro gs h
    unfold grpsR at h
    split at h
    · cases h
    · rename_i r hr
      split at h
      · cases h
      · rename_i g hg
        injection h with h
        subst h
        obtain ⟨l1, l2⟩ := ih hr
        refine ⟨by simp [l1], fun k hk => ?_⟩
        rcases List.mem_append.mp hk with hk | hk
        · exact l2 k hk
        · rw [List.mem_singleton.mp hk]; exact grpR_length hg
theorem sizes_le {gs : List (List Int)} {ps : List (Array UInt8)} (h : ps.map KBw.bInts = gs) (hg : ∀ g ∈ gs, g.length ≤ 3) : (ps.map (·.size)).sum ≤ 3 * ps.length := by
  subst h
  induction ps with
  | nil => simp
  | cons b r ih =>
    have h1 := hg (KBw.bInts b) (by simp)
    rw [KBw.ints_length] at h1
    have h2 := ih fun g hg' => hg g (by simp at hg' ⊢; right; exact hg')
    simp only [List.map_cons, List.sum_cons, List.length_cons]
    (first | lia | omega)
set_option maxHeartbeats 8000000 in
theorem strict_decoded_spec {w : World} {mean : ExcName → Option Value} {mg mb : Str → Option Value} {dp un : Nat} {gd : Option (List Code)} {outer : List Env} {base : Heap} {s : Shared} {E Q : Value → Shared → Prop}
    {b : Array UInt8} {ks : List Int} {tb : Tok}
    (X : (Mine.hd.heap_1_39 w.params).In s.heap) (T : Top Mine.hd.view_1_40 (looseW Mine.hd.view_1_40 [Str.ofString "PostError", Str.ofString "encoded"]) mean mg mb s.heap) (K : Below (Ar dp un gd (some outer)) base outer s.heap) (hdp : dp + 60 < recursionLimit) (hun : un + 600 < cLine)
    (hb : KBw.bInts b = ks) (hl : ks.length ≤ 1000)
    (ret : ∀ r c t h' tk', sdR ks = .ok r → (∀ b o, s.heap.get? b = some o → h'.get? b = some o) → KBw.bInts c = r → Q (.bytes c t) { s with heap := h', toks := tk' })
    (err : ∀ p e h' tk', sdR ks = .error p → Flown base outer e p h' → SlotsKept s.heap h' → E (.ref e) { s with heap := h', toks := tk' }) :
    wpAny (model PySem.Challenge.rw_no0352_01.row.prog w) (Ar dp un gd (some outer)) (call (.ref 141) [.bytes b tb]) Q E s := by
  revert X; k_fill; intro X
  refine' enterC2R (binds := [(Str.ofString "data", .bytes b tb)]) (x1 := Str.ofString "worths") (x2 := Str.ofString "data") (c1 := none) (c2 := some (.bytes b tb)) (lm := fun y => none) X T ?k6 ?k7 ?k8 ?k9 ?kB ?kD ?kc ?kl ?hc1 ?hc2 ?_ ?c2 ?c3 ?c4; (case k6 => k_is); (case k7 => k_is); (case k8 => (simp only [recursionLimit] at *; (first | lia | omega))); (case k9 => exact BindsTo.of_eq rfl); (case kB => exact rfl); (case kD => decide +kernel); (case kc => intro _; rfl); (case kl => intro _; rfl); (case hc1 => intro _; rfl); (case hc2 => intro _; rfl); (case c2 => exact rfl); (case c3 => exact rfl); (case c4 => exact rfl)
  intro L' h' tk' o1 o2 F' N' d1 d2
  try dsimp only
  try k_fold
  have hbs : (b.size : Int) = (ks.length : Nat) := by rw [← KBw.ints_length, hb]
  k_steps
  rename Fr _ _ _ _ => Fc
  rename News _ _ _ _ => Nc
  refine' worth_table_spec (n := 64) (sks := SGN) (Frag.In.keeps X Fc.keep) (T.keeps Fc.keep) ?hdp ?hun sgn_ints ?nod sgn_length rfl (by decide) ?ret
  case hdp => simp only [recursionLimit] at *; (first | lia | omega)
  case hun => (have := cLine_is; show un + 3 + _ < _; (first | lia | omega))
  case nod => decide
  case ret =>
  intro Dw f hh tk hk0 hD0 hm hwf
  obtain ⟨ow, how, hwo⟩ := WorthObj.of hm
  have Fd := Fc.keeps hk0
  have Nd := news_more Fc Nc hk0 hD0 how
  (try dsimp only)
  (try k_fold)
  k_steps
  have hne1 : Dw ≠ L' + 1 + 1 := ne_new Nc (.head _) hD0
  have hne2 : Dw ≠ L' + 1 := ne_new Nc (.tail _ (.head _)) hD0
  clear Fc Nc
  refine stCN (own := [(Dw, ow)]) (rest := [(L' + 1, o2)]) Fd Nd rfl d1 (apart_cons hne1 apart_nil) (apart_cons (Nat.ne_of_lt (Nat.lt_succ_self (L' + 1))) apart_nil) (fun h4 o4 F4 N4 d4 => ?_)
  simp only [List.cons_append, List.nil_append] at N4
  clear Fd Nd
  (try dsimp only)
  (try k_fold)
  k_steps
  rename Fr _ _ _ _ => F0
  rename News _ _ _ _ => N0
  rename Below _ _ _ _ => K
  rename IsRange _ _ _ _ _ _ _ _ => R0
  show wpAny _ _ (pyIter _) _ _ _
  refine srcE_range (n := (ks.length + 3) / 4) (fun i ys nw => nw = [(Dw, ow), (L' + 1 + 1, o4), (L' + 1, o2)] ∧ ∃ ps gs, BytesAre ys ps ∧ ps.map KBw.bInts = gs ∧ grpsR ks i = .ok gs) (fun i p => i < (ks.length + 3) / 4 ∧ grpsR ks (i + 1) = .error p) rfl F0 N0 R0 (small_of (by (first | lia | omega)) (by (first | lia | omega)) (by decide) (by decide)) (size_up (by decide) (by (first | lia | omega)) (by (first | lia | omega))) (by rw [sizeLine_eq]; (first | lia | omega)) ⟨rfl, [], [], .nil, rfl, rfl⟩ (fun g => ?turn) (fun g ys nw hj => ?fin) ?err
  case turn =>
    clear F0 N0
    rintro i ys nw v I oI C oC D m₂ hh tk B hi ⟨rfl, ps, gs, hys, hps, hseq⟩ ⟨tv, rfl⟩ hC hx F₂ N₂ off ne K₂
    (try k_fold)
    k_steps
    have e4 : (0 : Int) + (i : Int) * 4 = 4 * i := by (first | lia | omega)
    have hi' : i < (ks.length + 3) / 4 := hi
    have hb0 : (0 : Int) ≤ 0 + (i : Int) * 4 := by (first | lia | omega)
    have hb1 : (0 : Int) + (i : Int) * 4 ≤ 1000 := by (first | lia | omega)
    refine' strict_group_spec (Frag.In.keeps X F₂.keep) (T.keeps F₂.keep) K₂ ?hdp ?hun hb hl hb0 hb1 (hwo.at (N₂ _ (.tail _ (.tail _ (.tail _ (.head _))))).1) hwf ?eret ?eerr
    case hdp => simp only [recursionLimit] at *; (first | lia | omega)
    case hun => (have := cLine_is; show un + 3 + _ < _; (first | lia | omega))
    case eret =>
      intro r c t h3 tk3 hg hk3 hc
      rw [e4] at hg
      refine LCg.CompEnd.intro (F₂.keeps hk3) (N₂.grown hk3) [(Dw, ow), (L' + 1 + 1, o4), (L' + 1, o2)] (fun _ h => h) off trivial ⟨rfl, ps ++ [c], gs ++ [r], hys.snoc _ _, by rw [List.map_append, hps]; simp [hc], ?_⟩
      unfold grpsR
      rw [hseq]
      dsimp only
      rw [hg]
    case eerr =>
      intro p e h3 tk3 hg fl sk
      rw [e4] at hg
      refine ⟨e, p, h3, tk3, rfl, rfl, ⟨hi, ?_⟩, fl, sk⟩
      unfold grpsR
      rw [hseq]
      dsimp only
      rw [hg]
  case fin =>
    obtain ⟨rfl, ps, gs, hys, hps, hseq⟩ := hj
    obtain ⟨hgl, hg3⟩ := grpsR_length hseq
    have hpl : ps.length = (ks.length + 3) / 4 := by rw [← hgl, ← hps, List.length_map]
    have hsum := sizes_le hps hg3
    intro D hh tk F₂ N₂ off
    (try dsimp only)
    (try k_fold)
    k_steps
    rename Fr _ _ _ _ => Fx
    rename News _ _ _ _ => Nx
    refine bytes_join (News.isList Nx (.head _)) hys (by rw [show (#[] : Array UInt8).size = 0 from rfl]; (first | lia | omega)) (fun t5 k5 => ?_)
    refine ret _ _ _ _ _ (by unfold sdR; rw [hseq]) Fx.keep ?_
    rw [joined_ints, hps]
    rfl
  case err =>
    intro i p e h9 tk9 hbad fl sk
    show Leaves _ _ _ _ _ _
    refine flown_leaves K fl sk rfl fun h10 fl' sk' => err p e h10 _ ?_ fl' sk'
    obtain ⟨hi2, hse⟩ := hbad
    have := grpsR_err hse (show i + 1 ≤ (ks.length + 3) / 4 by (first | lia | omega))
    unfold sdR
    rw [this]
end
end Mine
end
theorem Mine.quiet_C141 : True := by w_top off; trivial
section
set_option maxRecDepth 100000
namespace Mine
/-- what encoded gives -/
def oneL (ks : List Int) : List Int := encP ks SGN ((ks.length + 2) / 3) ++ List.replicate ((-(ks.length : Int)) % 3).toNat 61
def encL (ks : List Int) (w : Nat) : List Int := inLines (oneL ks) w
theorem oneL_length (ks : List Int) : (oneL ks).length ≤ 2 * ks.length + 10 := by
  unfold oneL
  rw [List.length_append, List.length_replicate]
  have := encP_length ks SGN ((ks.length + 2) / 3)
  (first | lia | omega)
section
local macro_rules | `(tactic| walk_at "eval ListComp") => `(tactic| walk_at "Z1")
local macro_rules | `(tactic| walk_at "exec Assign cons ListComp") => `(tactic| walk_at "Z2")
local macro_rules | `(tactic| walk_at "exec For Name Name cons nil") => `(tactic| walk_at "Z3")
local macro_rules | `(tactic| walk_at "exec For Name Call cons nil") => `(tactic| walk_at "Z3")
local macro_rules | `(tactic| walk_at "binaryOp BitAnd int int") => `(tactic| (with_reducible first | refine and63 ?_ | refine and255 ?_))
local macro_rules | `(tactic| walk_at "subscriptTail") => `(tactic| walk_at "Z6")
local macro_rules | `(tactic| walk_at "call builtin:len") => `(tactic| walk_at "Z5")
local macro_rules | `(tactic| walk_at "binaryOp Add bytes bytes") => `(tactic| walk_at "Z7")
local macro_rules | `(tactic| walk_at "getMethod bytes") => `(tactic| walk_at "Z8")
local macro_rules | `(tactic| walk_at "compareOp In int bytes") => `(tactic| walk_at "Z9")
set_option maxHeartbeats 4000000 in
theorem encoded_spec {w : World} {mean : ExcName → Option Value} {mg mb : Str → Option Value} {dp un : Nat} {gd : Option (List Code)} {fr : Option (List Env)} {s : Shared} {E Q : Value → Shared → Prop}
    {bb : Array UInt8} {tb tw : Tok} {ks : List Int} {wd : Nat} {w0 : Int}
    (X : (Mine.hd.heap_1_39 w.params).In s.heap) (T : Top Mine.hd.view_1_40 (looseW Mine.hd.view_1_40 [Str.ofString "PostError", Str.ofString "encoded"]) mean mg mb s.heap) (hdp : dp + 40 < recursionLimit) (hun : un + 400 < cLine)
    (hb : KBw.bInts bb = ks) (hn : ks.length ≤ 400) (hw : w0 = wd) (hw2 : wd ≤ 1000)
    (ret : ∀ b t h' tk', (∀ b o, s.heap.get? b = some o → h'.get? b = some o) → KBw.bInts b = encL ks wd → Q (.bytes b t) { s with heap := h', toks := tk' }) :
    wpAny (model PySem.Challenge.rw_no0352_01.row.prog w) (Ar dp un gd fr) (call (.ref 103) [.bytes bb tb, .int w0 tw]) Q E s := by
  revert X; k_fill; intro X
  refine' enter (binds := [(Str.ofString "octets", .bytes bb tb), (Str.ofString "width", .int w0 tw)]) X T ?k6 ?k7 ?k8 ?k9 ?kB ?_ ?c2 ?c3 ?c4 ?c5; (case k6 => k_is); (case k7 => k_is); (case k8 => (simp only [recursionLimit] at *; (first | lia | omega))); (case k9 => exact binds_K X rfl (by k_is) rfl rfl rfl); (case c5 => decide); (case kB => exact locs rfl); (case c2 => exact rfl); (case c3 => exact rfl); (case c4 => exact rfl)
  intro L' h' F' N'
  try dsimp only
  try k_fold
  k_steps
  rename Fr _ _ _ _ => Fc
  rename News _ _ _ _ => Nc
  have hbs : (bb.size : Int) = (ks.length : Nat) := by rw [← KBw.ints_length, hb]
  refine' one_line_spec (n := ks.length) (Frag.In.keeps X Fc.keep) (T.keeps Fc.keep) ?hdp ?hun hb rfl hbs (by (first | lia | omega)) ?ret
  case hdp => simp only [recursionLimit] at *; (first | lia | omega)
  case hun => (have := cLine_is; show un + 3 + _ < _; (first | lia | omega))
  case ret =>
  intro b1 t1 hh1 tk1 hk1 hb1
  have hb1' : KBw.bInts b1 = oneL ks := hb1
  clear hb1
  have Fd := Fc.keeps hk1
  have Nd := Nc.grown hk1
  (try dsimp only)
  (try k_fold)
  k_steps
  rename Fr _ _ _ _ => Fc
  rename News _ _ _ _ => Nc
  have hl1 := oneL_length ks
  have hbs1 : (b1.size : Int) = ((oneL ks).length : Nat) := by rw [← KBw.ints_length, hb1']
  refine' in_lines_spec (n := (oneL ks).length) (wd := wd) (Frag.In.keeps X Fc.keep) (T.keeps Fc.keep) ?hdp ?hun hb1' rfl hbs1 (by (first | lia | omega)) hw hw2 ?ret
  case hdp => simp only [recursionLimit] at *; (first | lia | omega)
  case hun => (have := cLine_is; show un + 3 + _ < _; (first | lia | omega))
  case ret =>
  intro b2 t2 hh2 tk2 hk2 hb2
  exact ret _ _ _ _ (Fr.keep (Fc.keeps hk2)) hb2
set_option maxHeartbeats 4000000 in
theorem encoded76_spec {w : World} {mean : ExcName → Option Value} {mg mb : Str → Option Value} {dp un : Nat} {gd : Option (List Code)} {fr : Option (List Env)} {s : Shared} {E Q : Value → Shared → Prop}
    {bb : Array UInt8} {tb : Tok} {ks : List Int}
    (X : (Mine.hd.heap_1_39 w.params).In s.heap) (T : Top Mine.hd.view_1_40 (looseW Mine.hd.view_1_40 [Str.ofString "PostError", Str.ofString "encoded"]) mean mg mb s.heap) (hdp : dp + 40 < recursionLimit) (hun : un + 400 < cLine)
    (hb : KBw.bInts bb = ks) (hn : ks.length ≤ 400)
    (ret : ∀ b t h' tk', (∀ b o, s.heap.get? b = some o → h'.get? b = some o) → KBw.bInts b = encL ks 76 → Q (.bytes b t) { s with heap := h', toks := tk' }) :
    wpAny (model PySem.Challenge.rw_no0352_01.row.prog w) (Ar dp un gd fr) (call (.ref 103) [.bytes bb tb]) Q E s := by
  revert X; k_fill; intro X
  refine' enter (binds := [(Str.ofString "octets", .bytes bb tb), (Str.ofString "width", .int 76 301)]) X T ?k6 ?k7 ?k8 ?k9 ?kB ?_ ?c2 ?c3 ?c4 ?c5; (case k6 => k_is); (case k7 => k_is); (case k8 => (simp only [recursionLimit] at *; (first | lia | omega))); (case k9 => exact binds_K X rfl (by k_is) rfl rfl rfl); (case c5 => decide); (case kB => exact locs rfl); (case c2 => exact rfl); (case c3 => exact rfl); (case c4 => exact rfl)
  intro L' h' F' N'
  try dsimp only
  try k_fold
  k_steps
  rename Fr _ _ _ _ => Fc
  rename News _ _ _ _ => Nc
  have hbs : (bb.size : Int) = (ks.length : Nat) := by rw [← KBw.ints_length, hb]
  refine' one_line_spec (n := ks.length) (Frag.In.keeps X Fc.keep) (T.keeps Fc.keep) ?hdp ?hun hb rfl hbs (by (first | lia | omega)) ?ret
  case hdp => simp only [recursionLimit] at *; (first | lia | omega)
  case hun => (have := cLine_is; show un + 3 + _ < _; (first | lia | omega))
  case ret =>
  intro b1 t1 hh1 tk1 hk1 hb1
  have hb1' : KBw.bInts b1 = oneL ks := hb1
  clear hb1
  have Fd := Fc.keeps hk1
  have Nd := Nc.grown hk1
  (try dsimp only)
  (try k_fold)
  k_steps
  rename Fr _ _ _ _ => Fc
  rename News _ _ _ _ => Nc
  have hl1 := oneL_length ks
  have hbs1 : (b1.size : Int) = ((oneL ks).length : Nat) := by rw [← KBw.ints_length, hb1']
  refine' in_lines_spec (n := (oneL ks).length) (wd := 76) (Frag.In.keeps X Fc.keep) (T.keeps Fc.keep) ?hdp ?hun hb1' rfl hbs1 (by (first | lia | omega)) rfl (by decide) ?ret
  case hdp => simp only [recursionLimit] at *; (first | lia | omega)
  case hun => (have := cLine_is; show un + 3 + _ < _; (first | lia | omega))
  case ret =>
  intro b2 t2 hh2 tk2 hk2 hb2
  exact ret _ _ _ _ (Fr.keep (Fc.keeps hk2)) hb2
end
end Mine
end
theorem Mine.quiet_C103 : True := by w_top off; trivial
section
set_option maxRecDepth 100000
namespace Mine
/-- a sign -/
def sg (n : Int) : Int := SGN.getD n.toNat 0
/-- what is to be encoded: groups of four signs -/
def encN : List Int → List Int
  | [] => []
  | [a] => [sg (a / 4), sg (a % 4 * 16), 61, 61]
  | [a, b] => [sg (a / 4), sg (a % 4 * 16 + b / 16), sg (b % 16 * 4), 61]
  | a :: b :: c :: r => sg (a / 4) :: sg (a % 4 * 16 + b / 16) :: sg (b % 16 * 4 + c / 64) :: sg (c % 64) :: encN r
theorem gcI_eq {ks : List Int} {n i : Nat} {t d r : Int} (ht : gcT ks n = t) (hd : (2 : Int) ^ (6 * ((n : Int) + 1 - 1 + (i : Int) * -1)).toNat = d) (hp : 0 ≤ d) (hr : t / d % 64 = r) : gcI ks SGN n i = sg r := by
  unfold gcI sg
  rw [ht, hd, Int.fdiv_eq_ediv_of_nonneg _ hp, hr]
theorem gcT1 (a : Int) : gcT [a] 1 = a * 16 := by
  have e : (2 : Int) ^ (6 * (((1 : Nat) : Int) + 1) - 8 * ((1 : Nat) : Int)).toNat = 16 := by decide
  unfold gcT
  rw [e]
  show (256 * 0 + a) * 16 = _
  (first | lia | omega)
theorem gcT2 (a b : Int) : gcT [a, b] 2 = (256 * a + b) * 4 := by
  have e : (2 : Int) ^ (6 * (((2 : Nat) : Int) + 1) - 8 * ((2 : Nat) : Int)).toNat = 4 := by decide
  unfold gcT
  rw [e]
  show (256 * (256 * 0 + a) + b) * 4 = _
  (first | lia | omega)
theorem gcT3 (a b c : Int) : gcT [a, b, c] 3 = 65536 * a + 256 * b + c := by
  have e : (2 : Int) ^ (6 * (((3 : Nat) : Int) + 1) - 8 * ((3 : Nat) : Int)).toNat = 1 := by decide
  unfold gcT
  rw [e]
  show (256 * (256 * (256 * 0 + a) + b) + c) * 1 = _
  (first | lia | omega)
def Oct (k : Int) : Prop := 0 ≤ k ∧ k < 256
theorem gcL1 {a : Int} (ha : Oct a) : gcL [a] SGN 1 = [sg (a / 4), sg (a % 4 * 16)] := by
  unfold Oct at ha
  show [gcI [a] SGN 1 0, gcI [a] SGN 1 1] = _
  rw [gcI_eq (gcT1 a) (d := 64) (by decide) (by decide) (r := a / 4) (by omega),
    gcI_eq (gcT1 a) (d := 1) (by decide) (by decide) (r := a % 4 * 16) (by omega)]
theorem gcL2 {a b : Int} (ha : Oct a) (hb : Oct b) : gcL [a, b] SGN 2 = [sg (a / 4), sg (a % 4 * 16 + b / 16), sg (b % 16 * 4)] := by
  unfold Oct at ha hb
  show [gcI [a, b] SGN 2 0, gcI [a, b] SGN 2 1, gcI [a, b] SGN 2 2] = _
  rw [gcI_eq (gcT2 a b) (d := 4096) (by decide) (by decide) (r := a / 4) (by omega),
    gcI_eq (gcT2 a b) (d := 64) (by decide) (by decide) (r := a % 4 * 16 + b / 16) (by omega),
    gcI_eq (gcT2 a b) (d := 1) (by decide) (by decide) (r := b % 16 * 4) (by omega)]
theorem gcL3 {a b c : Int} (ha : Oct a) (hb : Oct b) (hc : Oct c) : gcL [a, b, c] SGN 3 = [sg (a / 4), sg (a % 4 * 16 + b / 16), sg (b % 16 * 4 + c / 64), sg (c % 64)] := by
  unfold Oct at ha hb hc
  show [gcI [a, b, c] SGN 3 0, gcI [a, b, c] SGN 3 1, gcI [a, b, c] SGN 3 2, gcI [a, b, c] SGN 3 3] = _
  rw [gcI_eq (gcT3 a b c) (d := 262144) (by decide) (by decide) (r := a / 4) (by omega),
    gcI_eq (gcT3 a b c) (d := 4096) (by decide) (by decide) (r := a % 4 * 16 + b / 16) (by omega),
    gcI_eq (gcT3 a b c) (d := 64) (by decide) (by decide) (r := b % 16 * 4 + c / 64) (by omega),
    gcI_eq (gcT3 a b c) (d := 1) (by decide) (by decide) (r := c % 64) (by omega)]
theorem encP_cons (a b c : Int) (r sks : List Int) (i : Nat) : encP (a :: b :: c :: r) sks (i + 1) = gcL [a, b, c] sks 3 ++ encP r sks i := by
  unfold encP
  rw [List.range_succ_eq_map, List.flatMap_cons, List.flatMap_map]
  congr 1
theorem oneL_enc : ∀ (ks : List Int), (∀ k ∈ ks, Oct k) → oneL ks = encN ks
  | [], _ => rfl
  | [a], h => by
    have e : ((-(([a] : List Int).length : Int)) % 3).toNat = 2 := by show ((-((1 : Nat) : Int)) % 3).toNat = 2; decide
    have e2 : encP [a] SGN (([a].length + 2) / 3) = gcL [a] SGN 1 := by rw [show ([a].length + 2) / 3 = 1 by simp]; unfold encP; simp [chunk3, List.range_succ]
    unfold oneL
    rw [e, e2, gcL1 (h a (by simp))]; rfl
  | [a, b], h => by
    have e : ((-(([a, b] : List Int).length : Int)) % 3).toNat = 1 := by show ((-((2 : Nat) : Int)) % 3).toNat = 1; decide
    have e2 : encP [a, b] SGN (([a, b].length + 2) / 3) = gcL [a, b] SGN 2 := by rw [show ([a, b].length + 2) / 3 = 1 by simp]; unfold encP; simp [chunk3, List.range_succ]
    unfold oneL
    rw [e, e2, gcL2 (h a (by simp)) (h b (by simp))]; rfl
  | a :: b :: c :: r, h => by
    have ih := oneL_enc r fun k hk => h k (by simp [hk])
    unfold oneL at ih ⊢
    have e1 : ((a :: b :: c :: r).length + 2) / 3 = (r.length + 2) / 3 + 1 := Nat.add_div_right (r.length + 2) (show 0 < 3 by decide)
    have e2 : (-((a :: b :: c :: r).length : Int)) % 3 = (-(r.length : Int)) % 3 := by simp only [List.length_cons]; (first | lia | omega)
    rw [e1, e2, encP_cons, List.append_assoc, ih, gcL3 (h a (by simp)) (h b (by simp)) (h c (by simp))]
    rfl
/-- the bits of a sign, of an octet -/
theorem bit_div {size : Nat} {a : Int} {j : Nat} {d : Int} (hd : (2 : Int) ^ ((size : Int) - 1 - j).toNat = d) (hp : 0 ≤ d) : bitOf size a j = a / d % 2 := by
  unfold bitOf
  rw [hd, Int.fdiv_eq_ediv_of_nonneg _ hp, Int.fmod_eq_emod_of_nonneg _ (by decide)]
theorem flat8_cons (a : Int) (r : List Int) : flat2 8 (bitOf 8) (a :: r) = a / 128 % 2 :: a / 64 % 2 :: a / 32 % 2 :: a / 16 % 2 :: a / 8 % 2 :: a / 4 % 2 :: a / 2 % 2 :: a / 1 % 2 :: flat2 8 (bitOf 8) r := by
  show bitOf 8 a 0 :: bitOf 8 a 1 :: bitOf 8 a 2 :: bitOf 8 a 3 :: bitOf 8 a 4 :: bitOf 8 a 5 :: bitOf 8 a 6 :: bitOf 8 a 7 :: flat2 8 (bitOf 8) r = _
  rw [bit_div (j := 0) (d := 128) (by decide) (by decide), bit_div (j := 1) (d := 64) (by decide) (by decide), bit_div (j := 2) (d := 32) (by decide) (by decide), bit_div (j := 3) (d := 16) (by decide) (by decide),
    bit_div (j := 4) (d := 8) (by decide) (by decide), bit_div (j := 5) (d := 4) (by decide) (by decide), bit_div (j := 6) (d := 2) (by decide) (by decide), bit_div (j := 7) (d := 1) (by decide) (by decide)]
theorem flat6_cons (a : Int) (r : List Int) : flat2 6 (bitOf 6) (a :: r) = a / 32 % 2 :: a / 16 % 2 :: a / 8 % 2 :: a / 4 % 2 :: a / 2 % 2 :: a / 1 % 2 :: flat2 6 (bitOf 6) r := by
  show bitOf 6 a 0 :: bitOf 6 a 1 :: bitOf 6 a 2 :: bitOf 6 a 3 :: bitOf 6 a 4 :: bitOf 6 a 5 :: flat2 6 (bitOf 6) r = _
  rw [bit_div (j := 0) (d := 32) (by decide) (by decide), bit_div (j := 1) (d := 16) (by decide) (by decide),
    bit_div (j := 2) (d := 8) (by decide) (by decide), bit_div (j := 3) (d := 4) (by decide) (by decide), bit_div (j := 4) (d := 2) (by decide) (by decide), bit_div (j := 5) (d := 1) (by decide) (by decide)]
theorem flat_nil (k : Nat) (g : Int → Nat → Int) : flat2 k g [] = [] := rfl
/-- bits by sixes, by eights -/
def sexN (bits : List Int) : List Int := (List.range (bits.length / 6)).map (sexI bits)
theorem sexI_zero (x0 x1 x2 x3 x4 x5 : Int) (r : List Int) : sexI (x0 :: x1 :: x2 :: x3 :: x4 :: x5 :: r) 0 = x0 * 32 + (x1 * 16 + (x2 * 8 + (x3 * 4 + (x4 * 2 + (x5 * 1 + 0))))) := rfl
theorem sexT_succ (x0 x1 x2 x3 x4 x5 : Int) (r : List Int) (i j : Nat) : sexT (x0 :: x1 :: x2 :: x3 :: x4 :: x5 :: r) (i + 1) j = sexT r i j := by
  unfold sexT
  have e : (6 * ((i + 1 : Nat) : Int) + (0 + (j : Int) * 1)).toNat = (6 * (i : Int) + (0 + (j : Int) * 1)).toNat + 1 + 1 + 1 + 1 + 1 + 1 := Nat.add_right_comm (6 * i) 6 (0 + j * 1)
  rw [e]
  simp only [List.getD_cons_succ]
theorem sexN_cons (x0 x1 x2 x3 x4 x5 : Int) (r : List Int) : sexN (x0 :: x1 :: x2 :: x3 :: x4 :: x5 :: r) = (x0 * 32 + (x1 * 16 + (x2 * 8 + (x3 * 4 + (x4 * 2 + (x5 * 1 + 0)))))) :: sexN r := by
  unfold sexN
  have e : (x0 :: x1 :: x2 :: x3 :: x4 :: x5 :: r).length / 6 = r.length / 6 + 1 := Nat.add_div_right r.length (show 0 < 6 by decide)
  rw [e, List.range_succ_eq_map, List.map_cons, List.map_map, sexI_zero]
  refine congrArg _ ?_
  refine List.map_congr_left fun i _ => ?_
  show sexI _ (i + 1) = _
  unfold sexI
  refine congrArg List.sum (List.map_congr_left fun j _ => sexT_succ _ _ _ _ _ _ _ _ _)
theorem octI_zero (x0 x1 x2 x3 x4 x5 x6 x7 : Int) (r : List Int) : octI (x0 :: x1 :: x2 :: x3 :: x4 :: x5 :: x6 :: x7 :: r) 0 = x0 * 128 + (x1 * 64 + (x2 * 32 + (x3 * 16 + (x4 * 8 + (x5 * 4 + (x6 * 2 + (x7 * 1 + 0))))))) := rfl
theorem octT_succ (x0 x1 x2 x3 x4 x5 x6 x7 : Int) (r : List Int) (i j : Nat) : octT (x0 :: x1 :: x2 :: x3 :: x4 :: x5 :: x6 :: x7 :: r) (i + 1) j = octT r i j := by
  unfold octT
  have e : (8 * ((i + 1 : Nat) : Int) + (0 + (j : Int) * 1)).toNat = (8 * (i : Int) + (0 + (j : Int) * 1)).toNat + 1 + 1 + 1 + 1 + 1 + 1 + 1 + 1 := Nat.add_right_comm (8 * i) 8 (0 + j * 1)
  rw [e]
  simp only [List.getD_cons_succ]
theorem octL_cons (x0 x1 x2 x3 x4 x5 x6 x7 : Int) (r : List Int) : octL (x0 :: x1 :: x2 :: x3 :: x4 :: x5 :: x6 :: x7 :: r) = (x0 * 128 + (x1 * 64 + (x2 * 32 + (x3 * 16 + (x4 * 8 + (x5 * 4 + (x6 * 2 + (x7 * 1 + 0)))))))) :: octL r := by
  unfold octL
  have e : (x0 :: x1 :: x2 :: x3 :: x4 :: x5 :: x6 :: x7 :: r).length / 8 = r.length / 8 + 1 := Nat.add_div_right r.length (show 0 < 8 by decide)
  rw [e, List.range_succ_eq_map, List.map_cons, List.map_map, octI_zero]
  refine congrArg _ ?_
  refine List.map_congr_left fun i _ => ?_
  show octI _ (i + 1) = _
  unfold octI
  refine congrArg List.sum (List.map_congr_left fun j _ => octT_succ _ _ _ _ _ _ _ _ _ _ _)
theorem octL_short (r : List Int) (h : r.length < 8) : octL r = [] := by
  unfold octL
  rw [Nat.div_eq_of_lt h]; rfl
theorem rowS_sex (ks : List Int) : rowS ks = (sexN (bits6 ks)).map sg := by
  unfold rowS sexN rowI sg
  rw [List.map_map]; rfl
theorem bits6_cons (a b c : Int) (r : List Int) : bits6 (a :: b :: c :: r) =
    a / 128 % 2 :: a / 64 % 2 :: a / 32 % 2 :: a / 16 % 2 :: a / 8 % 2 :: a / 4 % 2 :: a / 2 % 2 :: a / 1 % 2 ::
    b / 128 % 2 :: b / 64 % 2 :: b / 32 % 2 :: b / 16 % 2 :: b / 8 % 2 :: b / 4 % 2 :: b / 2 % 2 :: b / 1 % 2 ::
    c / 128 % 2 :: c / 64 % 2 :: c / 32 % 2 :: c / 16 % 2 :: c / 8 % 2 :: c / 4 % 2 :: c / 2 % 2 :: c / 1 % 2 :: bits6 r := by
  unfold bits6
  have e : (-(((a :: b :: c :: r).length * 8 : Nat) : Int)) % 6 = (-((r.length * 8 : Nat) : Int)) % 6 := by simp only [List.length_cons]; (first | lia | omega)
  rw [e, flat8_cons, flat8_cons, flat8_cons]
  rfl
/-- the worths of the signs of the law's own row -/
def sexR (ks : List Int) : List Int := sexN (bits6 ks)
/-- a law of one octet is proved for each of the 256 -/
theorem oct_all {P : Int → Prop} (h : ∀ i : Fin 256, P (i.val : Int)) {a : Int} (ha : Oct a) : P a := by
  have h1 : a.toNat < 256 := by have := ha.1; have := ha.2; (first | lia | omega)
  have h2 : ((a.toNat : Nat) : Int) = a := Int.toNat_of_nonneg ha.1
  exact h2 ▸ h ⟨a.toNat, h1⟩
theorem oA6 {a : Int} (ha : Oct a) : a / 128 % 2 * 32 + (a / 64 % 2 * 16 + (a / 32 % 2 * 8 + (a / 16 % 2 * 4 + (a / 8 % 2 * 2 + (a / 4 % 2 * 1 + 0))))) = a / 4 :=
  oct_all (P := fun a => a / 128 % 2 * 32 + (a / 64 % 2 * 16 + (a / 32 % 2 * 8 + (a / 16 % 2 * 4 + (a / 8 % 2 * 2 + (a / 4 % 2 * 1 + 0))))) = a / 4) (by decide +kernel) ha
theorem oA2 {a : Int} (ha : Oct a) (X : Int) : a / 2 % 2 * 32 + (a / 1 % 2 * 16 + X) = a % 4 * 16 + X := by
  rw [← Int.add_assoc, oct_all (P := fun a => a / 2 % 2 * 32 + a / 1 % 2 * 16 = a % 4 * 16) (by decide +kernel) ha]
theorem oB4 {b : Int} (hb : Oct b) : b / 128 % 2 * 8 + (b / 64 % 2 * 4 + (b / 32 % 2 * 2 + (b / 16 % 2 * 1 + 0))) = b / 16 :=
  oct_all (P := fun b => b / 128 % 2 * 8 + (b / 64 % 2 * 4 + (b / 32 % 2 * 2 + (b / 16 % 2 * 1 + 0))) = b / 16) (by decide +kernel) hb
theorem oB3 {b : Int} (hb : Oct b) (X : Int) : b / 8 % 2 * 32 + (b / 4 % 2 * 16 + (b / 2 % 2 * 8 + (b / 1 % 2 * 4 + X))) = b % 16 * 4 + X := by
  rw [← oct_all (P := fun b => b / 8 % 2 * 32 + (b / 4 % 2 * 16 + (b / 2 % 2 * 8 + b / 1 % 2 * 4)) = b % 16 * 4) (by decide +kernel) hb]
  simp only [Int.add_assoc]
theorem oC2 {c : Int} (hc : Oct c) : c / 128 % 2 * 2 + (c / 64 % 2 * 1 + 0) = c / 64 :=
  oct_all (P := fun c => c / 128 % 2 * 2 + (c / 64 % 2 * 1 + 0) = c / 64) (by decide +kernel) hc
theorem oC6 {c : Int} (hc : Oct c) : c / 32 % 2 * 32 + (c / 16 % 2 * 16 + (c / 8 % 2 * 8 + (c / 4 % 2 * 4 + (c / 2 % 2 * 2 + (c / 1 % 2 * 1 + 0))))) = c % 64 :=
  oct_all (P := fun c => c / 32 % 2 * 32 + (c / 16 % 2 * 16 + (c / 8 % 2 * 8 + (c / 4 % 2 * 4 + (c / 2 % 2 * 2 + (c / 1 % 2 * 1 + 0))))) = c % 64) (by decide +kernel) hc
theorem sexR_cons {a b c : Int} (r : List Int) (ha : Oct a) (hb : Oct b) (hc : Oct c) : sexR (a :: b :: c :: r) = a / 4 :: (a % 4 * 16 + b / 16) :: (b % 16 * 4 + c / 64) :: c % 64 :: sexR r := by
  unfold sexR
  rw [bits6_cons, sexN_cons, sexN_cons, sexN_cons, sexN_cons, oA6 ha, oA2 ha, oB4 hb, oB3 hb, oC2 hc, oC6 hc]
theorem sexR1 {a : Int} (ha : Oct a) : sexR [a] = [a / 4, a % 4 * 16] := by
  have e : ((-((([a] : List Int).length * 8 : Nat) : Int)) % 6).toNat = 4 := by show ((-((8 : Nat) : Int)) % 6).toNat = 4; decide
  unfold sexR bits6
  rw [flat8_cons, e]
  show sexN (_ :: _ :: _ :: _ :: _ :: _ :: _ :: _ :: [0, 0, 0, 0]) = _
  rw [sexN_cons, sexN_cons, oA6 ha, oA2 ha]
  show [_, a % 4 * 16 + 0] = _
  rw [Int.add_zero]
theorem sexR2 {a b : Int} (ha : Oct a) (hb : Oct b) : sexR [a, b] = [a / 4, a % 4 * 16 + b / 16, b % 16 * 4] := by
  have e : ((-((([a, b] : List Int).length * 8 : Nat) : Int)) % 6).toNat = 2 := by show ((-((16 : Nat) : Int)) % 6).toNat = 2; decide
  unfold sexR bits6
  rw [flat8_cons, flat8_cons, e]
  show sexN (_ :: _ :: _ :: _ :: _ :: _ :: _ :: _ :: _ :: _ :: _ :: _ :: _ :: _ :: _ :: _ :: [0, 0]) = _
  rw [sexN_cons, sexN_cons, sexN_cons, oA6 ha, oA2 ha, oB4 hb, oB3 hb]
  show [_, _, b % 16 * 4 + 0] = _
  rw [Int.add_zero]
theorem row2_enc : ∀ (ks : List Int), (∀ k ∈ ks, Oct k) → row2 ks = encN ks
  | [], _ => rfl
  | [a], h => by
    have e : rowS [a] = [sg (a / 4), sg (a % 4 * 16)] := by rw [rowS_sex]; exact congrArg (List.map sg) (sexR1 (h a (by simp)))
    unfold row2
    rw [e]; rfl
  | [a, b], h => by
    have e : rowS [a, b] = [sg (a / 4), sg (a % 4 * 16 + b / 16), sg (b % 16 * 4)] := by rw [rowS_sex]; exact congrArg (List.map sg) (sexR2 (h a (by simp)) (h b (by simp)))
    unfold row2
    rw [e]; rfl
  | a :: b :: c :: r, h => by
    have ih := row2_enc r fun k hk => h k (by simp [hk])
    have e : rowS (a :: b :: c :: r) = sg (a / 4) :: sg (a % 4 * 16 + b / 16) :: sg (b % 16 * 4 + c / 64) :: sg (c % 64) :: rowS r := by
      rw [rowS_sex, rowS_sex]; exact congrArg (List.map sg) (sexR_cons r (h a (by simp)) (h b (by simp)) (h c (by simp)))
    unfold row2 at ih ⊢
    have e2 : (-((rowS (a :: b :: c :: r)).length : Int)) % 4 = (-((rowS r).length : Int)) % 4 := by rw [e]; simp only [List.length_cons]; (first | lia | omega)
    rw [e2, e]
    show _ :: _ :: _ :: _ :: (_ ++ _) = _
    rw [ih]; rfl
/-- the signs are the same, whoever reckons them -/
theorem oneL_row2 {ks : List Int} (h : ∀ k ∈ ks, Oct k) : oneL ks = row2 ks := (oneL_enc ks h).trans (row2_enc ks h).symm
end Mine
end
section
set_option maxRecDepth 100000
namespace Mine
def Sex (k : Int) : Prop := 0 ≤ k ∧ k < 64
/-- the octets of a row of worths -/
def decN : List Int → List Int
  | [] => []
  | [_] => []
  | [a, b] => [a * 4 + b / 16]
  | [a, b, c] => [a * 4 + b / 16, b % 16 * 16 + c / 4]
  | a :: b :: c :: d :: r => (a * 4 + b / 16) :: (b % 16 * 16 + c / 4) :: (c % 4 * 64 + d) :: decN r
theorem tos2 (a b : Int) : tos [a, b] = 64 * a + b := by
  show 64 * (64 * 0 + a) + b = _
  (first | lia | omega)
theorem tos3 (a b c : Int) : tos [a, b, c] = 4096 * a + 64 * b + c := by
  show 64 * (64 * (64 * 0 + a) + b) + c = _
  (first | lia | omega)
theorem tos4 (a b c d : Int) : tos [a, b, c, d] = 262144 * a + 4096 * b + 64 * c + d := by
  show 64 * (64 * (64 * (64 * 0 + a) + b) + c) + d = _
  (first | lia | omega)
theorem goI_eq {ns : List Int} {m i : Nat} {t d1 d2 r : Int} (ht : tos ns = t) (hd1 : (2 : Int) ^ (6 * (m : Int) - 8 * ((m : Int) - 1)).toNat = d1) (hp1 : 0 ≤ d1)
    (hd2 : (2 : Int) ^ (8 * ((m : Int) - 1 - 1 + (i : Int) * -1)).toNat = d2) (hp2 : 0 ≤ d2) (hr : t / d1 / d2 % 256 = r) : goI ns m i = r := by
  unfold goI goW
  rw [ht, hd1, hd2, Int.fdiv_eq_ediv_of_nonneg _ hp1, Int.fdiv_eq_ediv_of_nonneg _ hp2, hr]
theorem goX2 {a b : Int} (ha : Sex a) (hb : Sex b) : goX [a, b] = [a * 4 + b / 16] := by
  unfold Sex at ha hb
  show [goI [a, b] 2 0] = _
  rw [goI_eq (tos2 a b) (d1 := 16) (d2 := 1) (by decide) (by decide) (by decide) (by decide) (r := a * 4 + b / 16) (by (first | lia | omega))]
theorem goX3 {a b c : Int} (ha : Sex a) (hb : Sex b) (hc : Sex c) : goX [a, b, c] = [a * 4 + b / 16, b % 16 * 16 + c / 4] := by
  unfold Sex at ha hb hc
  show [goI [a, b, c] 3 0, goI [a, b, c] 3 1] = _
  rw [goI_eq (tos3 a b c) (d1 := 4) (d2 := 256) (by decide) (by decide) (by decide) (by decide) (r := a * 4 + b / 16) (by (first | lia | omega)),
    goI_eq (tos3 a b c) (d1 := 4) (d2 := 1) (by decide) (by decide) (by decide) (by decide) (r := b % 16 * 16 + c / 4) (by (first | lia | omega))]
theorem goX4 {a b c d : Int} (ha : Sex a) (hb : Sex b) (hc : Sex c) (hd : Sex d) : goX [a, b, c, d] = [a * 4 + b / 16, b % 16 * 16 + c / 4, c % 4 * 64 + d] := by
  unfold Sex at ha hb hc hd
  show [goI [a, b, c, d] 4 0, goI [a, b, c, d] 4 1, goI [a, b, c, d] 4 2] = _
  rw [goI_eq (tos4 a b c d) (d1 := 1) (d2 := 65536) (by decide) (by decide) (by decide) (by decide) (r := a * 4 + b / 16) (by (first | lia | omega)),
    goI_eq (tos4 a b c d) (d1 := 1) (d2 := 256) (by decide) (by decide) (by decide) (by decide) (r := b % 16 * 16 + c / 4) (by (first | lia | omega)),
    goI_eq (tos4 a b c d) (d1 := 1) (d2 := 1) (by decide) (by decide) (by decide) (by decide) (r := c % 4 * 64 + d) (by (first | lia | omega))]
theorem joinL_nil : ∀ (ps : List (List Int)), joinL [] ps = ps.flatten
  | [] => rfl
  | x :: r => by
    rw [joinL_flat, List.flatten_cons]
    congr 1
    induction r with
    | nil => rfl
    | cons y r ih => rw [List.flatMap_cons, ih, List.flatten_cons]; rfl
def decF (r : List Int) : List Int := (decP r ((r.length + 3) / 4)).flatten
theorem decP_cons (a b c d : Int) (r : List Int) (i : Nat) : decP (a :: b :: c :: d :: r) (i + 1) = goX [a, b, c, d] :: decP r i := by
  unfold decP
  rw [List.range_succ_eq_map, List.filter_cons_of_pos (by simp only [List.length_cons]; exact decide_eq_true (by (first | lia | omega))), List.map_cons, List.filter_map, List.map_map]
  refine congr (congrArg _ rfl) ?_
  have e : (fun j => decide (4 * j + 1 < (a :: b :: c :: d :: r).length)) ∘ Nat.succ = fun j => decide (4 * j + 1 < r.length) := by
    funext j
    show decide (4 * (j + 1) + 1 < r.length + 1 + 1 + 1 + 1) = decide (4 * j + 1 < r.length)
    exact decide_eq_decide.mpr (by (first | lia | omega))
  rw [e]
  rfl
theorem decF_eq : ∀ (r : List Int), (∀ k ∈ r, Sex k) → decF r = decN r
  | [], _ => rfl
  | [a], _ => by
    unfold decF
    rw [show ([a].length + 3) / 4 = 1 by simp]
    unfold decP
    simp [List.range_succ, decN]
  | [a, b], h => by
    unfold decF
    rw [show ([a, b].length + 3) / 4 = 1 by simp]
    unfold decP
    simp only [List.range_succ, List.range_zero, List.nil_append, List.length_cons, List.length_nil]
    show (goX [a, b] :: []).flatten = _
    rw [goX2 (h a (by simp)) (h b (by simp))]; rfl
  | [a, b, c], h => by
    unfold decF
    rw [show ([a, b, c].length + 3) / 4 = 1 by simp]
    unfold decP
    simp only [List.range_succ, List.range_zero, List.nil_append, List.length_cons, List.length_nil]
    show (goX [a, b, c] :: []).flatten = _
    rw [goX3 (h a (by simp)) (h b (by simp)) (h c (by simp))]; rfl
  | a :: b :: c :: d :: r, h => by
    have ih := decF_eq r fun k hk => h k (by simp [hk])
    unfold decF at ih ⊢
    have e1 : ((a :: b :: c :: d :: r).length + 3) / 4 = (r.length + 3) / 4 + 1 := Nat.add_div_right (r.length + 3) (show 0 < 4 by decide)
    rw [e1, decP_cons, List.flatten_cons, ih, goX4 (h a (by simp)) (h b (by simp)) (h c (by simp)) (h d (by simp))]
    rfl
/-- a law of one sign's worth is proved for each of the 64 -/
theorem sex_all {P : Int → Prop} (h : ∀ i : Fin 64, P (i.val : Int)) {a : Int} (ha : Sex a) : P a := by
  have h1 : a.toNat < 64 := by have := ha.1; have := ha.2; (first | lia | omega)
  have h2 : ((a.toNat : Nat) : Int) = a := Int.toNat_of_nonneg ha.1
  exact h2 ▸ h ⟨a.toNat, h1⟩
theorem sA6 {a : Int} (ha : Sex a) (X : Int) : a / 32 % 2 * 128 + (a / 16 % 2 * 64 + (a / 8 % 2 * 32 + (a / 4 % 2 * 16 + (a / 2 % 2 * 8 + (a / 1 % 2 * 4 + X))))) = a * 4 + X := by
  rw [← sex_all (P := fun a => a / 32 % 2 * 128 + (a / 16 % 2 * 64 + (a / 8 % 2 * 32 + (a / 4 % 2 * 16 + (a / 2 % 2 * 8 + a / 1 % 2 * 4)))) = a * 4) (by decide +kernel) ha]
  simp only [Int.add_assoc]
theorem sB2 {b : Int} (hb : Sex b) : b / 32 % 2 * 2 + (b / 16 % 2 * 1 + 0) = b / 16 :=
  sex_all (P := fun b => b / 32 % 2 * 2 + (b / 16 % 2 * 1 + 0) = b / 16) (by decide +kernel) hb
theorem sB4 {b : Int} (hb : Sex b) (X : Int) : b / 8 % 2 * 128 + (b / 4 % 2 * 64 + (b / 2 % 2 * 32 + (b / 1 % 2 * 16 + X))) = b % 16 * 16 + X := by
  rw [← sex_all (P := fun b => b / 8 % 2 * 128 + (b / 4 % 2 * 64 + (b / 2 % 2 * 32 + b / 1 % 2 * 16)) = b % 16 * 16) (by decide +kernel) hb]
  simp only [Int.add_assoc]
theorem sC4 {c : Int} (hc : Sex c) : c / 32 % 2 * 8 + (c / 16 % 2 * 4 + (c / 8 % 2 * 2 + (c / 4 % 2 * 1 + 0))) = c / 4 :=
  sex_all (P := fun c => c / 32 % 2 * 8 + (c / 16 % 2 * 4 + (c / 8 % 2 * 2 + (c / 4 % 2 * 1 + 0))) = c / 4) (by decide +kernel) hc
theorem sC2 {c : Int} (hc : Sex c) (X : Int) : c / 2 % 2 * 128 + (c / 1 % 2 * 64 + X) = c % 4 * 64 + X := by
  rw [← Int.add_assoc, sex_all (P := fun c => c / 2 % 2 * 128 + c / 1 % 2 * 64 = c % 4 * 64) (by decide +kernel) hc]
theorem sD6 {d : Int} (hd : Sex d) : d / 32 % 2 * 32 + (d / 16 % 2 * 16 + (d / 8 % 2 * 8 + (d / 4 % 2 * 4 + (d / 2 % 2 * 2 + (d / 1 % 2 * 1 + 0))))) = d :=
  sex_all (P := fun d => d / 32 % 2 * 32 + (d / 16 % 2 * 16 + (d / 8 % 2 * 8 + (d / 4 % 2 * 4 + (d / 2 % 2 * 2 + (d / 1 % 2 * 1 + 0))))) = d) (by decide +kernel) hd
theorem oct6_eq : ∀ (r : List Int), (∀ k ∈ r, Sex k) → octL (flat2 6 (bitOf 6) r) = decN r
  | [], _ => rfl
  | [a], _ => by
    rw [octL_short _ (by rw [flat2_length]; simp)]; rfl
  | [a, b], h => by
    have ha := h a (by simp)
    have hb := h b (by simp)
    rw [flat6_cons, flat6_cons, flat_nil, octL_cons, octL_short _ (by simp), sA6 ha, sB2 hb]
    rfl
  | [a, b, c], h => by
    have ha := h a (by simp)
    have hb := h b (by simp)
    have hc := h c (by simp)
    rw [flat6_cons, flat6_cons, flat6_cons, flat_nil, octL_cons, octL_cons, octL_short _ (by simp), sA6 ha, sB2 hb, sB4 hb, sC4 hc]
    rfl
  | a :: b :: c :: d :: r, h => by
    have ih := oct6_eq r fun k hk => h k (by simp [hk])
    have ha := h a (by simp)
    have hb := h b (by simp)
    have hc := h c (by simp)
    have hd := h d (by simp)
    rw [flat6_cons, flat6_cons, flat6_cons, flat6_cons, octL_cons, octL_cons, octL_cons, ih, sA6 ha, sB2 hb, sB4 hb, sC4 hc, sC2 hc, sD6 hd]
    rfl
/-- the lax reading is the program's -/
theorem decL_lax (ks : List Int) : decL ks = laxL ks := by
  have hr : ∀ k ∈ rowL ks, Sex k := rowP_range _
  unfold decL
  rw [joinL_nil]
  show decF (rowL ks) = _
  rw [decF_eq _ hr]
  exact (oct6_eq _ hr).symm
/-! back again -/
theorem k1 {a : Int} (ha : Oct a) : a / 4 * 4 + a % 4 * 16 / 16 = a := oct_all (P := fun a => a / 4 * 4 + a % 4 * 16 / 16 = a) (by decide +kernel) ha
theorem k2 {a b : Int} (ha : Oct a) (hb : Oct b) : a / 4 * 4 + (a % 4 * 16 + b / 16) / 16 = a := by
  unfold Oct at ha hb
  omega
theorem k3 {a b : Int} (hb : Oct b) : (a % 4 * 16 + b / 16) % 16 * 16 + b % 16 * 4 / 4 = b := by
  unfold Oct at hb
  omega
theorem k4 {a b c : Int} (hb : Oct b) (hc : Oct c) : (a % 4 * 16 + b / 16) % 16 * 16 + (b % 16 * 4 + c / 64) / 4 = b := by
  unfold Oct at hb hc
  omega
theorem k5 {b c : Int} (hc : Oct c) : (b % 16 * 4 + c / 64) % 4 * 64 + c % 64 = c := by
  unfold Oct at hc
  omega
theorem dec_sex : ∀ (ks : List Int), (∀ k ∈ ks, Oct k) → decN (sexR ks) = ks
  | [], _ => rfl
  | [a], h => by
    have ha := h a (by simp)
    rw [sexR1 ha]
    exact congrArg (fun x => [x]) (k1 ha)
  | [a, b], h => by
    have ha := h a (by simp)
    have hb := h b (by simp)
    rw [sexR2 ha hb]
    show [_, _] = _
    rw [k2 ha hb, k3 hb]
  | a :: b :: c :: r, h => by
    have ih := dec_sex r fun k hk => h k (by simp [hk])
    have ha := h a (by simp)
    have hb := h b (by simp)
    have hc := h c (by simp)
    rw [sexR_cons r ha hb hc]
    show _ :: _ :: _ :: decN (sexR r) = _
    rw [ih, k2 ha hb, k4 hb hc, k5 hc]
/-- signs' worths of octets -/
theorem x1 {a : Int} (ha : Oct a) : Sex (a / 4) := oct_all (P := fun a => 0 ≤ a / 4 ∧ a / 4 < 64) (by decide +kernel) ha
theorem x2 {a : Int} (ha : Oct a) : Sex (a % 4 * 16) := oct_all (P := fun a => 0 ≤ a % 4 * 16 ∧ a % 4 * 16 < 64) (by decide +kernel) ha
theorem x3 {a b : Int} (hb : Oct b) : Sex (a % 4 * 16 + b / 16) := by
  unfold Oct at hb
  unfold Sex
  omega
theorem x4 {a : Int} (ha : Oct a) : Sex (a % 16 * 4) := oct_all (P := fun a => 0 ≤ a % 16 * 4 ∧ a % 16 * 4 < 64) (by decide +kernel) ha
theorem x5 {b c : Int} (hc : Oct c) : Sex (b % 16 * 4 + c / 64) := by
  unfold Oct at hc
  unfold Sex
  omega
theorem x6 {a : Int} (ha : Oct a) : Sex (a % 64) := oct_all (P := fun a => 0 ≤ a % 64 ∧ a % 64 < 64) (by decide +kernel) ha
theorem sg_in {n : Int} (h : Sex n) : sg n ∈ SGN ∧ (SGN.idxOf (sg n) : Int) = n := by
  obtain ⟨h0, h1⟩ := h
  have key : ∀ i : Fin 64, sg (i.val : Int) ∈ SGN ∧ (SGN.idxOf (sg (i.val : Int)) : Int) = (i.val : Int) := by decide +kernel
  have := key ⟨n.toNat, by (first | lia | omega)⟩
  rw [show ((⟨n.toNat, by (first | lia | omega)⟩ : Fin 64).val : Int) = n by show (n.toNat : Int) = n; (first | lia | omega)] at this
  exact this
theorem sgn_pad : ∀ k ∈ SGN, k ≠ 61 := by decide
theorem rowL_sign {n : Int} {r : List Int} (h : Sex n) : rowL (sg n :: r) = n :: rowL r := by
  obtain ⟨h1, h2⟩ := sg_in h
  unfold rowL rowP
  rw [List.takeWhile_cons, if_pos (by simp [sgn_pad _ h1]), List.filter_cons_of_pos (by simpa using h1), List.map_cons, h2]
theorem rowL_pad {r : List Int} : rowL (61 :: r) = [] := rfl
theorem rowL_nil : rowL [] = [] := rfl
theorem rowL_enc : ∀ (ks : List Int), (∀ k ∈ ks, Oct k) → rowL (encN ks) = sexR ks
  | [], _ => rfl
  | [a], h => by
    have ha := h a (by simp)
    rw [sexR1 ha]
    unfold Oct at ha
    show rowL (sg _ :: sg _ :: 61 :: _) = _
    rw [rowL_sign ⟨by (first | lia | omega), by (first | lia | omega)⟩, rowL_sign ⟨by (first | lia | omega), by (first | lia | omega)⟩, rowL_pad]
  | [a, b], h => by
    have ha := h a (by simp)
    have hb := h b (by simp)
    rw [sexR2 ha hb]
    unfold Oct at ha hb
    show rowL (sg _ :: sg _ :: sg _ :: 61 :: _) = _
    rw [rowL_sign ⟨by (first | lia | omega), by (first | lia | omega)⟩, rowL_sign ⟨by (first | lia | omega), by (first | lia | omega)⟩, rowL_sign ⟨by (first | lia | omega), by (first | lia | omega)⟩, rowL_pad]
  | a :: b :: c :: r, h => by
    have ih := rowL_enc r fun k hk => h k (by simp [hk])
    have ha := h a (by simp)
    have hb := h b (by simp)
    have hc := h c (by simp)
    rw [sexR_cons r ha hb hc]
    unfold Oct at ha hb hc
    show rowL (sg _ :: sg _ :: sg _ :: sg _ :: encN r) = _
    rw [rowL_sign ⟨by (first | lia | omega), by (first | lia | omega)⟩, rowL_sign ⟨by (first | lia | omega), by (first | lia | omega)⟩, rowL_sign ⟨by (first | lia | omega), by (first | lia | omega)⟩, rowL_sign ⟨by (first | lia | omega), by (first | lia | omega)⟩, ih]
/-! the line ends -/
def noEnd (ks : List Int) : List Int := ks.filter fun k => k != 13 && k != 10
theorem rowL_noEnd : ∀ (ks : List Int), rowL (noEnd ks) = rowL ks
  | [] => rfl
  | k :: r => by
    have ih := rowL_noEnd r
    unfold noEnd at ih ⊢
    by_cases hk : k = 13 ∨ k = 10
    · rw [List.filter_cons_of_neg (by rcases hk with rfl | rfl <;> decide), ih]
      have e1 : (k != 61) = true := by rcases hk with rfl | rfl <;> decide
      have e2 : ¬ (fun x => decide (x ∈ SGN)) k = true := by rcases hk with rfl | rfl <;> decide
      unfold rowL rowP
      rw [List.takeWhile_cons, if_pos e1, List.filter_cons_of_neg (p := fun x => decide (x ∈ SGN)) e2]
    · rw [List.filter_cons_of_pos (by simp; (first | lia | omega))]
      unfold rowL at ih ⊢
      rw [List.takeWhile_cons, List.takeWhile_cons]
      by_cases h1 : (k != 61) = true
      · rw [if_pos h1, if_pos h1]
        unfold rowP at ih ⊢
        by_cases h2 : (fun x => decide (x ∈ SGN)) k = true
        · rw [List.filter_cons_of_pos (p := fun x => decide (x ∈ SGN)) h2, List.filter_cons_of_pos (p := fun x => decide (x ∈ SGN)) h2, List.map_cons, List.map_cons, ih]
        · rw [List.filter_cons_of_neg (p := fun x => decide (x ∈ SGN)) h2, List.filter_cons_of_neg (p := fun x => decide (x ∈ SGN)) h2, ih]
      · rw [if_neg h1, if_neg h1]
theorem noEnd_app (a b : List Int) : noEnd (a ++ b) = noEnd a ++ noEnd b := List.filter_append ..
theorem noEnd_join : ∀ (ps : List (List Int)), noEnd (joinL [13, 10] ps) = noEnd ps.flatten
  | [] => rfl
  | x :: r => by
    rw [joinL_flat, List.flatten_cons, noEnd_app, noEnd_app]
    congr 1
    induction r with
    | nil => rfl
    | cons y r ih => rw [List.flatMap_cons, List.flatten_cons, noEnd_app, noEnd_app, noEnd_app, ih]; rfl
theorem pieces_flat (ks : List Int) (w : Nat) : ∀ n, (pieces ks w n).flatten = ks.take (n * w)
  | 0 => by simp [pieces]
  | n + 1 => by
    have ih := pieces_flat ks w n
    unfold pieces at ih ⊢
    rw [List.range_succ, List.map_append, List.flatten_append, ih, Nat.succ_mul, List.take_add]
    simp
theorem rowL_lines (ks : List Int) (w : Nat) : rowL (inLines ks w) = rowL ks := by
  unfold inLines
  split
  · rfl
  · rename_i hw
    rw [← rowL_noEnd, noEnd_join, pieces_flat, List.take_of_length_le (nPieces_le (by (first | lia | omega))), rowL_noEnd]
theorem rowL_range (ks : List Int) : ∀ k ∈ rowL ks, Sex k := rowP_range _
theorem decL_dec (ks : List Int) : decL ks = decN (rowL ks) := by
  unfold decL
  rw [joinL_nil]
  exact decF_eq _ (rowL_range ks)
/-- what is encoded in lines is decoded again -/
theorem decL_enc {ks : List Int} (h : ∀ k ∈ ks, Oct k) (w : Nat) : decL (encL ks w) = ks := by
  rw [decL_dec]
  unfold encL
  rw [rowL_lines, oneL_enc ks h, rowL_enc ks h, dec_sex ks h]
theorem encL_lines {ks : List Int} (h : ∀ k ∈ ks, Oct k) (w : Nat) : encL ks w = inLines (row2 ks) w := by
  unfold encL
  rw [oneL_row2 h]
end Mine
end
section
set_option maxRecDepth 100000
namespace Mine
/-- the worth of a sign -/
def wt (k : Int) : Int := (SGN.idxOf k : Int)
theorem wt_sex {k : Int} (h : k ∈ SGN) : Sex (wt k) := by
  have := List.idxOf_lt_length_of_mem h
  rw [sgn_length] at this
  unfold wt Sex
  (first | lia | omega)
section
variable {ks l : List Int} {p : Nat}
theorem len_at (hl : ks.drop p = l) (hp : p ≤ ks.length) : ks.length = p + l.length := by
  have := congrArg List.length hl
  rw [List.length_drop] at this
  (first | lia | omega)
theorem at_drop (hl : ks.drop p = l) (j : Nat) : ks.getD (p + j) 0 = l.getD j 0 := by
  rw [← hl, List.getD_eq_getElem?_getD, List.getD_eq_getElem?_getD, List.getElem?_drop]
theorem num_ok (hl : ks.drop p = l) (hp : p ≤ ks.length) (j : Nat) (hj : j < l.length) {k : Int} (hk : l.getD j 0 = k) (hs : k ∈ SGN) {a : Int} (ha : a = p + j) : numR ks a = .ok (wt k) := by
  have hn := len_at hl hp
  subst ha
  unfold numR
  rw [if_neg (by (first | lia | omega)), show ((p : Int) + j).toNat = p + j by (first | lia | omega), at_drop hl, hk, if_neg (by simpa using hs)]; rfl
theorem num_bad (hl : ks.drop p = l) (hp : p ≤ ks.length) (j : Nat) (hj : j < l.length) {k : Int} (hk : l.getD j 0 = k) (hs : k ∉ SGN) {a : Int} (ha : a = p + j) : numR ks a = .error a := by
  have hn := len_at hl hp
  subst ha
  unfold numR
  rw [if_neg (by (first | lia | omega)), show ((p : Int) + j).toNat = p + j by (first | lia | omega), at_drop hl, hk, if_pos hs]
theorem num_out (hl : ks.drop p = l) (hp : p ≤ ks.length) (j : Nat) (hj : j = l.length) {a : Int} (ha : a = p + j) : numR ks a = .error a := by
  have hn := len_at hl hp
  unfold numR
  rw [if_pos (by (first | lia | omega))]
  congr 1; (first | lia | omega)
theorem pad_in (hl : ks.drop p = l) (hp : p ≤ ks.length) (j : Nat) (hj : j < l.length) {k : Int} (hk : l.getD j 0 = k) {a : Int} (ha : a = p + j) : padB ks a = (k == 61) := by
  have hn := len_at hl hp
  subst ha
  unfold padB
  rw [show ((p : Int) + j).toNat = p + j by (first | lia | omega), at_drop hl, hk, decide_eq_true (by (first | lia | omega) : (p : Int) + j < ks.length), Bool.true_and]
theorem pad_out (hl : ks.drop p = l) (hp : p ≤ ks.length) (j : Nat) (hj : l.length ≤ j) {a : Int} (ha : a = p + j) : padB ks a = false := by
  have hn := len_at hl hp
  unfold padB
  rw [decide_eq_false (by (first | lia | omega)), Bool.false_and]
end
section
variable {ks : List Int} {b x y d e q : Int}
theorem seq_e0 (h : numR ks b = .error q) : seqR ks b 2 = .error q := by
  have h' : numR ks (b + (0 : Nat)) = .error q := by rw [show b + ((0 : Nat) : Int) = b by (first | lia | omega)]; exact h
  show (match (match (Except.ok [] : Except Int (List Int)) with | .error p => Except.error p | .ok ns => match numR ks (b + (0 : Nat)) with | .error p => .error p | .ok n => .ok (ns ++ [n])) with | .error p => Except.error p | .ok ns => match numR ks (b + (1 : Nat)) with | .error p => .error p | .ok n => .ok (ns ++ [n])) = _
  rw [h']
theorem seq_e1 (h : numR ks b = .ok x) (h1 : numR ks (b + 1) = .error q) : seqR ks b 2 = .error q := by
  have h' : numR ks (b + (0 : Nat)) = .ok x := by rw [show b + ((0 : Nat) : Int) = b by (first | lia | omega)]; exact h
  have h1' : numR ks (b + (1 : Nat)) = .error q := h1
  show (match (match (Except.ok [] : Except Int (List Int)) with | .error p => Except.error p | .ok ns => match numR ks (b + (0 : Nat)) with | .error p => .error p | .ok n => .ok (ns ++ [n])) with | .error p => Except.error p | .ok ns => match numR ks (b + (1 : Nat)) with | .error p => .error p | .ok n => .ok (ns ++ [n])) = _
  rw [h']
  dsimp only
  rw [h1']
theorem seq_ok (h : numR ks b = .ok x) (h1 : numR ks (b + 1) = .ok y) : seqR ks b 2 = .ok [x, y] := by
  have h' : numR ks (b + (0 : Nat)) = .ok x := by rw [show b + ((0 : Nat) : Int) = b by (first | lia | omega)]; exact h
  have h1' : numR ks (b + (1 : Nat)) = .ok y := h1
  show (match (match (Except.ok [] : Except Int (List Int)) with | .error p => Except.error p | .ok ns => match numR ks (b + (0 : Nat)) with | .error p => .error p | .ok n => .ok (ns ++ [n])) with | .error p => Except.error p | .ok ns => match numR ks (b + (1 : Nat)) with | .error p => .error p | .ok n => .ok (ns ++ [n])) = _
  rw [h']
  dsimp only
  rw [h1']
  rfl
theorem grp_e (h : seqR ks b 2 = .error q) : grpR ks b = .error q := by unfold grpR; rw [h]
theorem grp_2 (h : seqR ks b 2 = .ok [x, y]) (hp : padB ks (b + 2) = true) : grpR ks b = finR ks b [x, y] 2 := by unfold grpR; rw [h]; dsimp only; rw [if_pos hp]
theorem grp_2e (h : seqR ks b 2 = .ok [x, y]) (hp : padB ks (b + 2) = false) (hn : numR ks (b + 2) = .error q) : grpR ks b = .error q := by unfold grpR; rw [h]; dsimp only; rw [if_neg (by simp [hp]), hn]
theorem grp_3 (h : seqR ks b 2 = .ok [x, y]) (hp : padB ks (b + 2) = false) (hn : numR ks (b + 2) = .ok d) (hq : padB ks (b + 3) = true) : grpR ks b = finR ks b [x, y, d] 1 := by
  unfold grpR; rw [h]; dsimp only; rw [if_neg (by simp [hp]), hn]; dsimp only; rw [if_pos hq]; rfl
theorem grp_3e (h : seqR ks b 2 = .ok [x, y]) (hp : padB ks (b + 2) = false) (hn : numR ks (b + 2) = .ok d) (hq : padB ks (b + 3) = false) (hm : numR ks (b + 3) = .error q) : grpR ks b = .error q := by
  unfold grpR; rw [h]; dsimp only; rw [if_neg (by simp [hp]), hn]; dsimp only; rw [if_neg (by simp [hq]), hm]
theorem grp_4 (h : seqR ks b 2 = .ok [x, y]) (hp : padB ks (b + 2) = false) (hn : numR ks (b + 2) = .ok d) (hq : padB ks (b + 3) = false) (hm : numR ks (b + 3) = .ok e) : grpR ks b = finR ks b [x, y, d, e] 0 := by
  unfold grpR; rw [h]; dsimp only; rw [if_neg (by simp [hp]), hn]; dsimp only; rw [if_neg (by simp [hq]), hm]; rfl
theorem fin_bits {row : List Int} {pads : Int} (h : 0 < goS row row.length) (e : q = b + 3 - pads) : finR ks b row pads = .error q := by unfold finR; rw [if_pos h, e]
theorem fin_end {row : List Int} {pads : Int} (h : ¬ 0 < goS row row.length) (e : endR ks b pads = .error q) : finR ks b row pads = .error q := by unfold finR; rw [if_neg h, e]
theorem fin_ok {row : List Int} {pads : Int} (h : ¬ 0 < goS row row.length) (e : endR ks b pads = .ok ()) : finR ks b row pads = .ok (goX row) := by unfold finR; rw [if_neg h, e]
theorem goS2 : goS [x, y] 2 = (64 * x + y) % 16 := by
  have e : (1 * 2 ^ (6 * ((2 : Nat) : Int) - 8 * (((2 : Nat) : Int) - 1)).toNat - 1 : Int) = 15 := by decide
  unfold goS
  rw [e, tos2, bitAnd_m4]
theorem goS3 : goS [x, y, d] 3 = (4096 * x + 64 * y + d) % 4 := by
  have h : (1 * 2 ^ (6 * ((3 : Nat) : Int) - 8 * (((3 : Nat) : Int) - 1)).toNat - 1 : Int) = 3 := by decide
  unfold goS
  rw [h, tos3, bitAnd_m2]
theorem and_zero (t : Int) : Builtin.bitAnd t 0 = 0 := by
  exact bitAnd_zero t
theorem goS4 : goS [x, y, d, e] 4 = 0 := by
  have h : (1 * 2 ^ (6 * ((4 : Nat) : Int) - 8 * (((4 : Nat) : Int) - 1)).toNat - 1 : Int) = 0 := by decide
  unfold goS
  rw [h, and_zero]
end
end Mine
end
section
set_option maxRecDepth 100000
namespace Mine
theorem one_bits4 {b : Int} (hb : Sex b) : 1 ∈ [b / 8 % 2, b / 4 % 2, b / 2 % 2, b / 1 % 2] → b % 16 ≠ 0 :=
  sex_all (P := fun b => 1 ∈ [b / 8 % 2, b / 4 % 2, b / 2 % 2, b / 1 % 2] → b % 16 ≠ 0) (by decide +kernel) hb
theorem no_bits4 {b : Int} (hb : Sex b) : ¬ 1 ∈ [b / 8 % 2, b / 4 % 2, b / 2 % 2, b / 1 % 2] → b % 16 = 0 :=
  sex_all (P := fun b => ¬ 1 ∈ [b / 8 % 2, b / 4 % 2, b / 2 % 2, b / 1 % 2] → b % 16 = 0) (by decide +kernel) hb
theorem one_bits2 {b : Int} (hb : Sex b) : 1 ∈ [b / 2 % 2, b / 1 % 2] → b % 4 ≠ 0 :=
  sex_all (P := fun b => 1 ∈ [b / 2 % 2, b / 1 % 2] → b % 4 ≠ 0) (by decide +kernel) hb
theorem no_bits2 {b : Int} (hb : Sex b) : ¬ 1 ∈ [b / 2 % 2, b / 1 % 2] → b % 4 = 0 :=
  sex_all (P := fun b => ¬ 1 ∈ [b / 2 % 2, b / 1 % 2] → b % 4 = 0) (by decide +kernel) hb
section
variable {ks l g r : List Int} {p : Nat} {a b c d q : Int}
theorem sgnX2 : (sgnX (a :: b :: r) 2).drop (8 * (2 - 1)) = [wt b / 8 % 2, wt b / 4 % 2, wt b / 2 % 2, wt b / 1 % 2] := by
  unfold sgnX
  rw [List.take_succ_cons, List.take_succ_cons, List.take_zero, List.map_cons, List.map_cons, List.map_nil, flat6_cons, flat6_cons, flat_nil]
  rfl
theorem sgnX3 : (sgnX (a :: b :: c :: r) 3).drop (8 * (3 - 1)) = [wt c / 2 % 2, wt c / 1 % 2] := by
  unfold sgnX
  rw [List.take_succ_cons, List.take_succ_cons, List.take_succ_cons, List.take_zero, List.map_cons, List.map_cons, List.map_cons, List.map_nil, flat6_cons, flat6_cons, flat6_cons, flat_nil]
  rfl
theorem sgnX4 : (sgnX [a, b, c, d] 4).drop (8 * (4 - 1)) = [] := by
  refine List.drop_of_length_le ?_
  unfold sgnX
  rw [flat2_length]
  simp
theorem oct2 (ha : a ∈ SGN) (hb : b ∈ SGN) : octL (sgnX (a :: b :: r) 2) = goX [wt a, wt b] := by
  rw [goX2 (wt_sex ha) (wt_sex hb)]
  exact oct6_eq [wt a, wt b] (by simp [wt_sex ha, wt_sex hb])
theorem oct3 (ha : a ∈ SGN) (hb : b ∈ SGN) (hc : c ∈ SGN) : octL (sgnX (a :: b :: c :: r) 3) = goX [wt a, wt b, wt c] := by
  rw [goX3 (wt_sex ha) (wt_sex hb) (wt_sex hc)]
  exact oct6_eq [wt a, wt b, wt c] (by simp [wt_sex ha, wt_sex hb, wt_sex hc])
theorem oct4 (ha : a ∈ SGN) (hb : b ∈ SGN) (hc : c ∈ SGN) (hd : d ∈ SGN) : octL (sgnX [a, b, c, d] 4) = goX [wt a, wt b, wt c, wt d] := by
  rw [goX4 (wt_sex ha) (wt_sex hb) (wt_sex hc) (wt_sex hd)]
  exact oct6_eq [wt a, wt b, wt c, wt d] (by simp [wt_sex ha, wt_sex hb, wt_sex hc, wt_sex hd])
theorem sgnC_no (h : a ∉ SGN) : sgnC (a :: r) = 0 := by unfold sgnC; rw [List.takeWhile_cons, if_neg (by simpa using h)]; rfl
theorem sgnC_yes (h : a ∈ SGN) : sgnC (a :: r) = sgnC r + 1 := by unfold sgnC; rw [List.takeWhile_cons, if_pos (by simpa using h), List.length_cons]
theorem sgnC_nil : sgnC [] = 0 := rfl
theorem pad_no : (61 : Int) ∉ SGN := by decide
/-- the end behind two signs and a pad -/
theorem grp_2x (hl : ks.drop p = a :: b :: 61 :: r) (hp : p ≤ ks.length) (ha : a ∈ SGN) (hb : b ∈ SGN) : finR ks p [wt a, wt b] 2 = strG ks p := by
  have hn := len_at hl hp
  have hg : (a :: b :: 61 :: r.take 1) = (ks.drop p).take 4 := by rw [hl]; simp
  have hc : sgnC (a :: b :: 61 :: r.take 1) = 2 := by rw [sgnC_yes ha, sgnC_yes hb, sgnC_no pad_no]
  have h0 : ¬ (2 < 2 ∨ (2 < 4 ∧ ((a :: b :: 61 :: r.take 1).length = 2 ∨ (a :: b :: 61 :: r.take 1).getD 2 0 ≠ 61))) := by simp
  have hw := wt_sex hb
  unfold Sex at hw
  by_cases h1 : 1 ∈ [wt b / 8 % 2, wt b / 4 % 2, wt b / 2 % 2, wt b / 1 % 2]
  · rw [strG_e2 (q := (p : Int) + 1) hg hc h0 (by rw [sgnX2]; exact h1) (by (first | lia | omega))]
    refine fin_bits ?_ (by (first | lia | omega))
    show 0 < goS [wt a, wt b] 2
    rw [goS2]
    have := one_bits4 (wt_sex hb) h1
    (first | lia | omega)
  · have hs : ¬ 0 < goS [wt a, wt b] [wt a, wt b].length := by
      show ¬ 0 < goS [wt a, wt b] 2
      rw [goS2]
      have := no_bits4 (wt_sex hb) h1
      (first | lia | omega)
    cases r with
    | nil =>
      rw [strG_e3 (q := (p : Int) + 3) hg hc h0 (by rw [sgnX2]; exact h1) ⟨by (first | lia | omega), by simp [List.replicate]⟩ rfl]
      refine fin_end hs ?_
      unfold endR
      rw [if_pos ⟨rfl, pad_out hl hp 3 (by simp) rfl⟩]
    | cons d r =>
      have hpd : padB ks ((p : Int) + 3) = (d == 61) := pad_in hl hp 3 (by simp) rfl rfl
      by_cases hd : d = 61
      · subst hd
        have h3 : ¬ (2 < 4 ∧ (a :: b :: 61 :: (61 :: r).take 1).drop 2 ≠ List.replicate (4 - 2) 61) := fun h => h.2 (by simp [List.replicate])
        by_cases hr : p + 4 < ks.length
        · rw [strG_e4 (q := (p : Int) + 4) hg hc h0 (by rw [sgnX2]; exact h1) h3 ⟨by (first | lia | omega), hr⟩ rfl]
          refine fin_end hs ?_
          unfold endR
          rw [if_neg (by rw [hpd]; simp), if_pos ⟨by (first | lia | omega), by (first | lia | omega)⟩]
        · rw [strG_ok hg hc h0 (by rw [sgnX2]; exact h1) h3 (by (first | lia | omega)), oct2 ha hb]
          refine fin_ok hs ?_
          unfold endR
          rw [if_neg (by rw [hpd]; simp), if_neg (by (first | lia | omega))]
      · rw [strG_e3 (q := (p : Int) + 3) hg hc h0 (by rw [sgnX2]; exact h1) ⟨by (first | lia | omega), by simp [List.replicate, hd]⟩ rfl]
        refine fin_end hs ?_
        unfold endR
        rw [if_pos ⟨rfl, by rw [hpd]; simpa using hd⟩]
theorem grp_3x (hl : ks.drop p = a :: b :: c :: 61 :: r) (hp : p ≤ ks.length) (ha : a ∈ SGN) (hb : b ∈ SGN) (hc : c ∈ SGN) : finR ks p [wt a, wt b, wt c] 1 = strG ks p := by
  have hn := len_at hl hp
  have hg : [a, b, c, 61] = (ks.drop p).take 4 := by rw [hl]; simp
  have hcc : sgnC [a, b, c, 61] = 3 := by rw [sgnC_yes ha, sgnC_yes hb, sgnC_yes hc, sgnC_no pad_no]
  have h0 : ¬ (3 < 2 ∨ (3 < 4 ∧ ([a, b, c, 61].length = 3 ∨ [a, b, c, 61].getD 3 0 ≠ 61))) := by simp
  have h3 : ¬ (3 < 4 ∧ [a, b, c, 61].drop 3 ≠ List.replicate (4 - 3) 61) := fun h => h.2 (by simp [List.replicate])
  have hw := wt_sex hc
  unfold Sex at hw
  by_cases h1 : 1 ∈ [wt c / 2 % 2, wt c / 1 % 2]
  · rw [strG_e2 (q := (p : Int) + 2) hg hcc h0 (by rw [sgnX3]; exact h1) (by (first | lia | omega))]
    refine fin_bits ?_ (by (first | lia | omega))
    show 0 < goS [wt a, wt b, wt c] 3
    rw [goS3]
    have := one_bits2 (wt_sex hc) h1
    (first | lia | omega)
  · have hs : ¬ 0 < goS [wt a, wt b, wt c] [wt a, wt b, wt c].length := by
      show ¬ 0 < goS [wt a, wt b, wt c] 3
      rw [goS3]
      have := no_bits2 (wt_sex hc) h1
      (first | lia | omega)
    by_cases hr : p + 4 < ks.length
    · rw [strG_e4 (q := (p : Int) + 4) hg hcc h0 (by rw [sgnX3]; exact h1) h3 ⟨by (first | lia | omega), hr⟩ rfl]
      refine fin_end hs ?_
      unfold endR
      rw [if_neg (by simp), if_pos ⟨by (first | lia | omega), by (first | lia | omega)⟩]
    · rw [strG_ok hg hcc h0 (by rw [sgnX3]; exact h1) h3 (by (first | lia | omega)), oct3 ha hb hc]
      refine fin_ok hs ?_
      unfold endR
      rw [if_neg (by simp), if_neg (by (first | lia | omega))]
theorem grp_4x (hl : ks.drop p = a :: b :: c :: d :: r) (ha : a ∈ SGN) (hb : b ∈ SGN) (hc : c ∈ SGN) (hd : d ∈ SGN) : finR ks p [wt a, wt b, wt c, wt d] 0 = strG ks p := by
  have hg : [a, b, c, d] = (ks.drop p).take 4 := by rw [hl]; simp
  have hcc : sgnC [a, b, c, d] = 4 := by rw [sgnC_yes ha, sgnC_yes hb, sgnC_yes hc, sgnC_yes hd, sgnC_nil]
  rw [strG_ok hg hcc (by (first | lia | omega)) (by rw [sgnX4]; exact List.not_mem_nil) (by (first | lia | omega)) (by (first | lia | omega)), oct4 ha hb hc hd]
  refine fin_ok ?_ ?_
  · show ¬ 0 < goS [wt a, wt b, wt c, wt d] 4
    rw [goS4]; decide
  · unfold endR
    rw [if_neg (by simp), if_neg (by (first | lia | omega))]
end
end Mine
end
section
set_option maxRecDepth 100000
namespace Mine
section
variable {ks l g r : List Int} {p : Nat} {a b c d q : Int}
theorem e1_0 (hl : ks.drop p = a :: r) (ha : a ∉ SGN) : strG ks p = .error p :=
  strG_e1 (g := a :: r.take 3) (by rw [hl]; simp) (sgnC_no ha) (.inl (by decide)) (by omega)
theorem e1_1 (hl : ks.drop p = a :: r) (ha : a ∈ SGN) (hc : sgnC (r.take 3) = 0) : strG ks p = .error (p + 1) :=
  strG_e1 (g := a :: r.take 3) (c := 1) (by rw [hl]; simp) (by rw [sgnC_yes ha, hc]) (.inl (by decide)) (by omega)
theorem e1_2 (hl : ks.drop p = a :: b :: r) (ha : a ∈ SGN) (hb : b ∈ SGN) (hc : sgnC (r.take 2) = 0) (hr : r = [] ∨ r.getD 0 0 ≠ 61) : strG ks p = .error (p + 2) :=
  strG_e1 (g := a :: b :: r.take 2) (c := 2) (by rw [hl]; simp) (by rw [sgnC_yes ha, sgnC_yes hb, hc]) (.inr ⟨by decide, by
    rcases hr with rfl | hr
    · left; rfl
    · cases r with
      | nil => left; rfl
      | cons x r => right; exact hr⟩) (by omega)
theorem e1_3 (hl : ks.drop p = a :: b :: c :: r) (ha : a ∈ SGN) (hb : b ∈ SGN) (hcc : c ∈ SGN) (hc : sgnC (r.take 1) = 0) (hr : r = [] ∨ r.getD 0 0 ≠ 61) : strG ks p = .error (p + 3) :=
  strG_e1 (g := a :: b :: c :: r.take 1) (c := 3) (by rw [hl]; simp) (by rw [sgnC_yes ha, sgnC_yes hb, sgnC_yes hcc, hc]) (.inr ⟨by decide, by
    rcases hr with rfl | hr
    · left; rfl
    · cases r with
      | nil => left; rfl
      | cons x r => right; exact hr⟩) (by omega)
/-- the two readings of one group are one -/
theorem grp_eq (hp : p < ks.length) : grpR ks p = strG ks p := by
  have hp' : p ≤ ks.length := Nat.le_of_lt hp
  obtain ⟨l, hl⟩ : ∃ l, ks.drop p = l := ⟨_, rfl⟩
  have hn := len_at hl hp'
  cases l with
  | nil => exfalso; simp at hn; omega
  | cons a r =>
  have p0 : (p : Int) = p + ((0 : Nat) : Int) := by omega
  by_cases ha : a ∈ SGN
  case neg =>
    rw [e1_0 hl ha]
    exact grp_e (seq_e0 (num_bad hl hp' 0 (by simp) rfl ha p0))
  have na := num_ok hl hp' 0 (by simp) rfl ha p0
  cases r with
  | nil =>
    rw [e1_1 hl ha rfl]
    exact grp_e (seq_e1 na (num_out hl hp' 1 rfl rfl))
  | cons b r =>
  by_cases hb : b ∈ SGN
  case neg =>
    rw [e1_1 hl ha (sgnC_no hb)]
    exact grp_e (seq_e1 na (num_bad hl hp' 1 (by simp) rfl hb rfl))
  have nb := num_ok hl hp' 1 (by simp) rfl hb (a := (p : Int) + 1) rfl
  have sq := seq_ok na nb
  cases r with
  | nil =>
    rw [e1_2 hl ha hb rfl (.inl rfl)]
    exact grp_2e sq (pad_out hl hp' 2 (by simp) rfl) (num_out hl hp' 2 rfl rfl)
  | cons c r =>
  have pc : padB ks ((p : Int) + 2) = (c == 61) := pad_in hl hp' 2 (by simp) rfl rfl
  by_cases h61 : c = 61
  case pos =>
    subst h61
    rw [grp_2 sq pc]
    exact grp_2x hl hp' ha hb
  have pc' : padB ks ((p : Int) + 2) = false := by rw [pc]; simpa using h61
  by_cases hc : c ∈ SGN
  case neg =>
    rw [e1_2 hl ha hb (sgnC_no hc) (.inr h61)]
    exact grp_2e sq pc' (num_bad hl hp' 2 (by simp) rfl hc rfl)
  have nc := num_ok hl hp' 2 (by simp) rfl hc (a := (p : Int) + 2) rfl
  cases r with
  | nil =>
    rw [e1_3 hl ha hb hc rfl (.inl rfl)]
    exact grp_3e sq pc' nc (pad_out hl hp' 3 (by simp) rfl) (num_out hl hp' 3 rfl rfl)
  | cons d r =>
  have pd : padB ks ((p : Int) + 3) = (d == 61) := pad_in hl hp' 3 (by simp) rfl rfl
  by_cases hd61 : d = 61
  case pos =>
    subst hd61
    rw [grp_3 sq pc' nc pd]
    exact grp_3x hl hp' ha hb hc
  have pd' : padB ks ((p : Int) + 3) = false := by rw [pd]; simpa using hd61
  by_cases hd : d ∈ SGN
  case neg =>
    rw [e1_3 hl ha hb hc (sgnC_no hd) (.inr hd61)]
    exact grp_3e sq pc' nc pd' (num_bad hl hp' 3 (by simp) rfl hd rfl)
  rw [grp_4 sq pc' nc pd' (num_ok hl hp' 3 (by simp) rfl hd rfl)]
  exact grp_4x hl ha hb hc hd
end
section
variable {ks : List Int}
def flatR : Except Int (List (List Int)) → Except Int (List Int)
  | .error p => .error p
  | .ok gs => .ok gs.flatten
theorem grps_eq : ∀ i : Nat, i ≤ (ks.length + 3) / 4 → flatR (grpsR ks i) = strN ks i
  | 0, _ => rfl
  | i + 1, h => by
    have ih := grps_eq i (by omega)
    have hg : grpR ks (4 * (i : Int)) = strG ks (4 * i) := by
      have := grp_eq (ks := ks) (p := 4 * i) (by omega)
      rw [← this]; congr 1
    show flatR (match grpsR ks i with | .error p => .error p | .ok gs => match grpR ks (4 * i) with | .error p => .error p | .ok g => .ok (gs ++ [g])) = (match strN ks i with | .error p => .error p | .ok r => match strG ks (4 * i) with | .error p => .error p | .ok o => .ok (r ++ o))
    rw [← ih, hg]
    cases grpsR ks i with
    | error p => rfl
    | ok gs =>
      show flatR (match strG ks (4 * i) with | .error p => .error p | .ok g => .ok (gs ++ [g])) = (match strG ks (4 * i) with | .error p => .error p | .ok o => .ok (gs.flatten ++ o))
      cases strG ks (4 * i) with
      | error p => rfl
      | ok o => show Except.ok _ = Except.ok _; simp
/-- the program's strict reading is the law's own -/
theorem sdR_eq (ks : List Int) : sdR ks = strR ks := by
  have h := grps_eq (ks := ks) _ (Nat.le_refl _)
  unfold strR
  rw [← h]
  unfold sdR
  cases grpsR ks ((ks.length + 3) / 4) with
  | error p => rfl
  | ok gs => show Except.ok _ = Except.ok _; rw [joinL_nil]
end
/-! what is encoded is read strictly -/
section
variable {g r o : List Int}
theorem strG_shift (hg : g.length = 4) {p : Nat} {o : List Int} (h : strG r p = .ok o) : strG (g ++ r) (4 + p) = .ok o := by
  have e : (g ++ r).drop (4 + p) = r.drop p := by rw [List.drop_append, hg, List.drop_of_length_le (by omega), List.nil_append, show 4 + p - 4 = p by omega]
  obtain ⟨t, ht⟩ : ∃ t, t = (r.drop p).take 4 := ⟨_, rfl⟩
  rw [strG_eq ht rfl] at h
  have ht' : t = ((g ++ r).drop (4 + p)).take 4 := by rw [e]; exact ht
  rw [strG_eq ht' rfl]
  split at h
  · cases h
  rename_i h0
  split at h
  · cases h
  rename_i h1
  split at h
  · cases h
  rename_i h2
  split at h
  · cases h
  rename_i h3
  rw [if_neg h0, if_neg h1, if_neg h2, if_neg (by rw [List.length_append, hg]; omega)]
  exact h
theorem strN_shift (hg : g.length = 4) (h0 : strG (g ++ r) 0 = .ok o) : ∀ (n : Nat) {x : List Int}, strN r n = .ok x → strN (g ++ r) (n + 1) = .ok (o ++ x)
  | 0, x, h => by
    cases h
    have := str_ok (ks := g ++ r) (i := 0) (r := []) rfl h0
    simpa using this
  | n + 1, x, h => by
    have h' : (match strN r n with | .error p => Except.error p | .ok y => match strG r (4 * n) with | .error p => .error p | .ok o => .ok (y ++ o)) = .ok x := h
    split at h'
    · cases h'
    · rename_i y hy
      split at h'
      · cases h'
      · rename_i z hz
        have e : x = y ++ z := by cases h'; rfl
        have h1 := strN_shift hg h0 n hy
        have h2 := strG_shift (g := g) hg hz
        rw [show 4 + 4 * n = 4 * (n + 1) by omega] at h2
        rw [str_ok h1 h2, e, List.append_assoc]
theorem strR_cons (hg : g.length = 4) (h0 : strG (g ++ r) 0 = .ok o) {x : List Int} (h : strR r = .ok x) : strR (g ++ r) = .ok (o ++ x) := by
  have := strN_shift hg h0 _ h
  unfold strR
  rw [List.length_append, hg, show (4 + r.length + 3) / 4 = (r.length + 3) / 4 + 1 by omega]
  exact this
end
section
variable {n : Int}
theorem sg_mem {n : Int} (h : Sex n) : sg n ∈ SGN := (sg_in h).1
theorem sg_wt {n : Int} (h : Sex n) : wt (sg n) = n := (sg_in h).2
end
theorem encN_strict : ∀ (ks : List Int), (∀ k ∈ ks, Oct k) → strR (encN ks) = .ok ks
  | [], _ => rfl
  | [a], h => by
    have ha := h a (by simp)
    have s1 := x1 ha
    have s2 := x2 ha
    have hl : (encN [a]).drop 0 = sg (a / 4) :: sg (a % 4 * 16) :: 61 :: [61] := rfl
    have hG : strG (encN [a]) 0 = .ok [a] := by
      rw [← grp_2x hl (by simp) (sg_mem s1) (sg_mem s2), sg_wt s1, sg_wt s2]
      have e : [a] = goX [a / 4, a % 4 * 16] := by
        rw [goX2 s1 s2, k1 ha]
      refine (fin_ok ?_ ?_).trans (congrArg Except.ok e.symm)
      · show ¬ 0 < goS [a / 4, a % 4 * 16] 2
        rw [goS2]; omega
      · unfold endR
        rw [if_neg (by rw [show ((0 : Nat) : Int) + 3 = ((0 : Nat) : Int) + ((3 : Nat) : Int) from rfl, pad_in hl (by simp) 3 (by simp) (k := 61) rfl rfl]; simp), if_neg (by simp [encN])]
    have := strR_cons (g := encN [a]) (r := []) (o := [a]) rfl (by rw [List.append_nil]; exact hG) (x := []) rfl
    rw [List.append_nil] at this
    exact this
  | [a, b], h => by
    have ha := h a (by simp)
    have hb := h b (by simp)
    have s1 := x1 ha
    have s2 := x3 (a := a) hb
    have s3 := x4 hb
    have hl : (encN [a, b]).drop 0 = sg (a / 4) :: sg (a % 4 * 16 + b / 16) :: sg (b % 16 * 4) :: 61 :: [] := rfl
    have hG : strG (encN [a, b]) 0 = .ok [a, b] := by
      rw [← grp_3x hl (by simp) (sg_mem s1) (sg_mem s2) (sg_mem s3), sg_wt s1, sg_wt s2, sg_wt s3]
      have e : [a, b] = goX [a / 4, a % 4 * 16 + b / 16, b % 16 * 4] := by
        rw [goX3 s1 s2 s3, k2 ha hb, k3 hb]
      refine (fin_ok ?_ ?_).trans (congrArg Except.ok e.symm)
      · show ¬ 0 < goS [a / 4, a % 4 * 16 + b / 16, b % 16 * 4] 3
        rw [goS3]; omega
      · unfold endR
        rw [if_neg (by simp), if_neg (by simp [encN])]
    have := strR_cons (g := encN [a, b]) (r := []) (o := [a, b]) rfl (by rw [List.append_nil]; exact hG) (x := []) rfl
    rw [List.append_nil] at this
    exact this
  | a :: b :: c :: r, h => by
    have ih := encN_strict r fun k hk => h k (by simp [hk])
    have ha := h a (by simp)
    have hb := h b (by simp)
    have hc := h c (by simp)
    have s1 := x1 ha
    have s2 := x3 (a := a) hb
    have s3 := x5 (b := b) hc
    have s4 := x6 hc
    have hl : (encN (a :: b :: c :: r)).drop 0 = sg (a / 4) :: sg (a % 4 * 16 + b / 16) :: sg (b % 16 * 4 + c / 64) :: sg (c % 64) :: encN r := rfl
    have hG : strG ([sg (a / 4), sg (a % 4 * 16 + b / 16), sg (b % 16 * 4 + c / 64), sg (c % 64)] ++ encN r) 0 = .ok [a, b, c] := by
      show strG (encN (a :: b :: c :: r)) 0 = _
      rw [← grp_4x hl (sg_mem s1) (sg_mem s2) (sg_mem s3) (sg_mem s4), sg_wt s1, sg_wt s2, sg_wt s3, sg_wt s4]
      have e : [a, b, c] = goX [a / 4, a % 4 * 16 + b / 16, b % 16 * 4 + c / 64, c % 64] := by
        rw [goX4 s1 s2 s3 s4, k2 ha hb, k4 hb hc, k5 hc]
      refine (fin_ok ?_ ?_).trans (congrArg Except.ok e.symm)
      · show ¬ 0 < goS [a / 4, a % 4 * 16 + b / 16, b % 16 * 4 + c / 64, c % 64] 4
        rw [goS4]; decide
      · unfold endR
        rw [if_neg (by simp), if_neg (by omega)]
    exact strR_cons (g := [_, _, _, _]) rfl hG ih
/-- what is encoded in one line is read strictly -/
theorem sdR_enc {ks : List Int} (h : ∀ k ∈ ks, Oct k) : sdR (encL ks 0) = .ok ks := by
  rw [sdR_eq]
  have e : encL ks 0 = encN ks := by
    unfold encL inLines
    rw [if_pos rfl, oneL_enc ks h]
  rw [e, encN_strict ks h]
end Mine
end
section
open Sem (wp)
open Builtin Builtin.ObjectAttr
set_option maxRecDepth 100000
namespace Mine
section
variable {w : World} {A : Around} {E : Value → Shared → Prop} {s : Shared} {prog : Program} {env : Env}
theorem fault_getattribute {h : Heap} {M : Model} (X : (Mine.hd.heap_1_39 w.params).In h) : Looks M h (typeLookup (.ref 59) "__getattribute__") (some (.builtin "BaseException.__getattribute__")) := by
  have hp' : PySem.Challenge.rw_no0352_01.row.prog = PySem.Challenge.rw_no0352_01.row.prog := rfl
  revert X hp'; k_fill; intro X _
  exact looks_findIn X (by k_is)
/-- the fault's own attribute is found -/
theorem fault_find {h : Heap} {M : Model} {e d : Addr} {oe : Obj} {vs : Array Value} {m : Str → Option Value} {v : Value} (X : (Mine.hd.heap_1_39 w.params).In h) (he : h.get? e = some oe) (hc : oe.cls = .ref 59) (hdi : oe.dict = some d) (hd : oe.data = .fields vs)
    (hn : h.Ns d m) (hm : m (Str.ofString "at") = some v) : Looks M h (find (.ref e) (.ref 59) "at") (.value v) := by
  have L1 := fault_at (M := M) X
  refine L1.andThen (Looks.now.andThen (Looks.now.andThen ?_))
  refine Looks.andThen (a := some v) ?_ (Looks.tag .now)
  obtain ⟨cd, hcd, L⟩ := fault_data (M := M) X
  obtain ⟨oc, od, oda, osl⟩ := oe
  dsimp only at hc hdi hd
  subst hc hdi hd
  intro A Q E s k q
  refine wpAny_bind (wpAny_bind (wpAny_loadPart (k _ _ he) ?_))
  dsimp only
  unfold instanceDict
  refine wpAny_bind (wpAny_loadPart (k _ _ he) ?_)
  dsimp only
  refine wpAny_bind (L A _ E s k ?_)
  rw [hcd]
  refine wpAny_pure (a := some d) ?_
  have hn' : s.heap.Ns d m := by obtain ⟨o, es, ep, ho, r⟩ := hn; exact ⟨o, es, ep, k _ _ ho, r⟩
  refine wpAny_nsGet hn' ?_
  rw [hm]; exact q
theorem fault_getattr {h : Heap} {M : Model} (X : (Mine.hd.heap_1_39 w.params).In h) : Looks M h (typeLookup (.ref 59) "__getattr__") none := by
  have hp' : PySem.Challenge.rw_no0352_01.row.prog = PySem.Challenge.rw_no0352_01.row.prog := rfl
  revert X hp'; k_fill; intro X _
  exact looks_findIn X (by k_is)
theorem fault_base {h : Heap} {M : Model} (X : (Mine.hd.heap_1_39 w.params).In h) : Looks M h (isSubtype (.ref 59) (.type "BaseException")) true := by
  have hp' : PySem.Challenge.rw_no0352_01.row.prog = PySem.Challenge.rw_no0352_01.row.prog := rfl
  revert X hp'; k_fill; intro X _
  exact looks_mroIn X (by k_is)
set_option maxHeartbeats 400000 in
theorem fault_get {e d : Addr} {oe : Obj} {vs : Array Value} {m : Str → Option Value} {p : Int} {t : Tok} {expr : Bool} {Q : Value → Shared → Prop} (X : (Mine.hd.heap_1_39 w.params).In s.heap) (he : s.heap.get? e = some oe) (hc : oe.cls = .ref 59) (hdi : oe.dict = some d) (hd : oe.data = .fields vs)
    (hn : s.heap.Ns d m) (hm : m (Str.ofString "at") = some (.int p t)) (h : Q (.int p t) { s with toks := s.toks + 1 }) : wpAny (model prog w) A (getAttr (.ref e) "at" expr) Q E s := by
  have L0 : Looks (model prog w) s.heap (typeOf (.ref e)) (.ref 59) := hc ▸ (Looks.ld he).andThen .now
  have L1 := fault_getattribute (M := model prog w) X
  have L2 := fault_find (M := model prog w) X he hc hdi hd hn hm
  have L3 := fault_getattr (M := model prog w) X
  have L4 := fault_base (M := model prog w) X
  have f3 := PySem.F.attr_Exception.ga.bind (.ref e)
  have hx0 : (expr && onTheHeap (Value.builtin "BaseException.__getattribute__")) = false := by cases expr <;> rfl
  have hx2 : (Value.builtin "BaseException.__getattribute__" == Value.builtin "object.__getattribute__") = false := by decide +kernel
  have hx1 : (onTheHeap (Value.ref 59) && Value.builtin "BaseException.__getattribute__" == Value.builtin "object.__getattribute__") = false := by rw [hx2]; rfl
  obtain ⟨hh, g, dr, tk, os⟩ := s
  unfold getAttr
  refine wpAny_bind (wpAny_mkText ?_)
  unfold getAttrBy
  refine wpAny_holding (wpAny_bind (L0.at (wpAny_bind (L1.at ?_))))
  repeat (any_goals (first | assumption | with_reducible refine L0.at ?_ | with_reducible refine L1.at ?_ | with_reducible refine L3.at ?_ | wp_step))
  have hk : builtinKind "BaseException.__getattribute__" = some .slot := by decide +kernel
  have hsplit : splitId "BaseException.__getattribute__" = some ("BaseException", "__getattribute__") := by decide +kernel
  show codeAny _ _ (.call (.builtin "BaseException.__getattribute__") ⟨[.ref e, .str (Str.ofString "at") tk], []⟩) _ _
  have hi : Looks (model prog w) hh (isInstance (.ref e) (.type "BaseException")) true := L0.andThen L4
  refine codeAny_call_builtin PySem.F.attr_Exception.ga.plain PySem.F.entry_bexc_ga ?_
  refine @check_slot (model prog w) _ _ ⟨hh, g, dr, tk + 1, os⟩ "BaseException.__getattribute__" "BaseException" "__getattribute__" (.ref e) [.str (Str.ofString "at") tk] [] _ hk hsplit hi (PySem.F.args_bexc_ga _ _) ?_
  unfold Builtin.«object.__getattribute__»
  refine wpAny_bind (wpAny_of_eq (a := (Value.ref e, [Value.str (Str.ofString "at") tk])) rfl ?_)
  refine wpAny_bind (wpAny_of_eq (a := Str.ofString "at") rfl ?_)
  refine wpAny_bind (L0 _ _ _ _ (fun _ _ q => q) (wpAny_bind (L2 _ _ _ _ (fun _ _ q => q) ?_)))
  refine wpAny_pure ?_
  show wpAny _ _ (handedOut (.int p t)) _ _ _
  rw [handedOut_of rfl]; exact wpAny_pure h
/-- except with the fault's class and a name -/
theorem handleBy_fault {e : Addr} {t : Expr} {n : Str} {b₀ : Stmt} {suite : List Stmt} {pos : Pos} {rest : List ExceptHandler} {Q : Flow → Shared → Prop}
    (h : wpAny (model prog w) (A.mark (some (.ref e))) (eval t env) (fun c s₁ => Hold (c = .ref 59 ∧ s₁.heap.get? 59 = some faultCls ∧ (∃ oe, s₁.heap.get? e = some oe ∧ oe.cls = .ref 59) ∧
        wpAny (model prog w) (A.mark (some (.ref e))) (setFlight (.ref e) none) (fun _ s₂ =>
          wpAny (model prog w) (A.mark (some (.ref e))) (storeName env n (.ref e)) (fun _ s₃ =>
            wpAny (model prog w) (A.mark (some (.ref e))) (execs (b₀ :: suite) env)
              (fun f s₄ => wpAny (model prog w) A (do bindName env n .none; unbindBehindTheSuite env n pos) (fun _ s₅ => Q f s₅) E s₄) (fun _ _ => False) s₃) (fun _ _ => False) s₂) (fun _ _ => False) s₁)) (fun _ _ => False) s) :
    wpAny (model prog w) A (handleBy (.ref e) env (.ExceptHandler (some t) (some n) (b₀ :: suite) pos :: rest)) Q E s := by
  refine wpAny_handleBy_cons (codeAny_handlers_test (wpAny_mono h (fun c s₁ h₁ => ?_) fun _ _ x => x.elim)) (by intro q; cases q)
  obtain ⟨rfl, hC, ⟨oe, he, hc⟩, hk⟩ := h₁
  obtain ⟨hp, g, dr, tk, os⟩ := s₁
  refine wpAny_excMatches_sub_self hC he hc (by decide) ?_
  refine codeAny_handlers_suite_as (wpAny_mono hk (fun _ s₂ h₂ => wpAny_mono h₂ (fun _ s₃ h₃ => wpAny_mono h₃ (fun f s₄ h₄ => h₄) fun _ _ x => x.elim) fun _ _ x => x.elim) fun _ _ x => x.elim)
end
end Mine
end
section
set_option maxRecDepth 100000
namespace Mine
section
local macro_rules | `(tactic| walk_at "eval ListComp") => `(tactic| walk_at "Z1")
local macro_rules | `(tactic| walk_at "exec Assign cons ListComp") => `(tactic| walk_at "Z2")
local macro_rules | `(tactic| walk_at "exec For Name Name cons nil") => `(tactic| walk_at "Z3")
local macro_rules | `(tactic| walk_at "exec For Name Call cons nil") => `(tactic| walk_at "Z3")
local macro_rules | `(tactic| walk_at "binaryOp BitAnd int int") => `(tactic| (with_reducible first | refine and63 ?_ | refine and255 ?_))
local macro_rules | `(tactic| walk_at "subscriptTail") => `(tactic| walk_at "Z10")
local macro_rules | `(tactic| walk_at "call builtin:len") => `(tactic| (refine len_to (by assumption) (by omega) ?_))
local macro_rules | `(tactic| walk_at "eval Call") => `(tactic| (with_unfolding_all refine Call_ ?_))
theorem fr_flown {base g h : Heap} {L e : Addr} {env : Env} {outer : List Env} {p : Int} {m : Str → Option Value} (F : Fr g L h m) (hz : base.objs.size ≤ g.objs.size) {h' : Heap} (fl : Flown base (env :: outer) e p h') (sk : SlotsKept h h') : Fr base L h' m :=
  ⟨sk.up.ns F.ns, fl.1, Nat.le_trans hz F.above⟩
set_option maxHeartbeats 8000000 in
theorem heard_spec {w : World} {mean : ExcName → Option Value} {mg mb : Str → Option Value} {dp un : Nat} {gd : Option (List Code)} {outer : List Env} {base : Heap} {s : Shared} {E Q : Value → Shared → Prop}
    {b : Array UInt8} {ks : List Int} {tb : Tok}
    (X : (Mine.hd.heap_1_39 w.params).In s.heap) (T : Top Mine.hd.view_1_40 (looseW Mine.hd.view_1_40 [Str.ofString "PostError", Str.ofString "encoded"]) mean mg mb s.heap) (K : Below (Ar dp un gd (some outer)) base outer s.heap) (hdp : dp + 70 < recursionLimit) (hun : un + 700 < cLine)
    (XB : (Mine.hd.heap_1_39 w.params).In base) (TB : Top Mine.hd.view_1_40 (looseW Mine.hd.view_1_40 [Str.ofString "PostError", Str.ofString "encoded"]) mean mg mb base) (hbz : base.objs.size ≤ s.heap.objs.size) (hb : KBw.bInts b = ks) (hl : ks.length ≤ 1000)
    (ret : ∀ r c t h' tk', sdR ks = .ok r → (∀ b o, s.heap.get? b = some o → h'.get? b = some o) → KBw.bInts c = r → Q (.bytes c t) { s with heap := h', toks := tk' })
    (err : ∀ p t h' tk', sdR ks = .error p → base.StaysIn h' → SlotsKept s.heap h' → Q (.int p t) { s with heap := h', toks := tk' }) :
    wpAny (model PySem.Challenge.rw_no0352_01.row.prog w) (Ar dp un gd (some outer)) (call (.ref 180) [.bytes b tb]) Q E s := by
  revert X; k_fill; intro X
  refine' enter (binds := [(Str.ofString "data", .bytes b tb)]) X T ?k6 ?k7 ?k8 ?k9 ?kB ?_ ?c2 ?c3 ?c4 ?c5; (case k6 => k_is); (case k7 => k_is); (case k8 => (simp only [recursionLimit] at *; omega)); (case k9 => exact BindsTo.of_eq rfl); (case c5 => decide); (case kB => exact locs rfl); (case c2 => exact rfl); (case c3 => exact rfl); (case c4 => exact rfl)
  intro L' h' F' N'
  try dsimp only
  try k_fold
  k_steps
  rename Fr _ _ _ _ => Fc
  rename News _ _ _ _ => Nc
  refine' strict_decoded_spec (Frag.In.keeps X Fc.keep) (T.keeps Fc.keep) (below_push K Fc rfl rfl) ?hdp ?hun hb hl ?sr ?se
  case hdp => simp only [recursionLimit] at *; omega
  case hun => (have := cLine_is; show un + 3 + _ < _; omega)
  case sr =>
    intro r c t h2 tk2 hr hk2 hc
    exact ret r c t _ _ hr (Fr.keep (Fc.keeps hk2)) hc
  case se =>
    intro p e h2 tk2 hp fl sk
    have hsk0 : SlotsKept s.heap h2 := (SlotsKept.of_keeps Fc.keep).trans sk
    refine flown_noted (L := L') (Around.frames_deeper K.stack) rfl rfl fl (fun h3 fl3 sk3 => ?_)
    refine flown_off fl3 (fun h4 fl4 sk4 => ?_)
    have hsL : s.heap.get? L' = none := Heap.get?_none_of_le Fc.above
    have hsk : SlotsKept s.heap h4 := (hsk0.trans sk3).trans sk4
    have F4 := fr_flown Fc hbz fl4 ((sk.trans sk3).trans sk4)
    have N4 : News base L' h4 [] := News.nil
    obtain ⟨r1, r2, r3, d, m, ta, flg, r4, rd, r5, r6⟩ := id fl4
    clear fl fl3 sk3 sk4 hsk0 sk Fc Nc X T
    refine handleBy_fault ?_
    (try dsimp only)
    (try k_fold)
    k_steps
    obtain ⟨oe, vs, Tt, oT, ts, he, hec, hed, hedat, h1, hnT, hTe, hT, hdT, h3t⟩ := id r4
    refine ⟨rfl, fault_cls (Frag.In.keeps XB F4.keep), ⟨oe, he, hec⟩, ?_⟩
    refine flown_off fl4 (fun h5 fl5 sk5 => ?_)
    have F5 := fr_flown (g := base) F4 (Nat.le_refl _) fl5 sk5
    have hsk5 := hsk.trans sk5
    clear F4 N4 r1 r2 r3 r4 rd r5 r6 he hec hed hedat h1 hnT hTe hT hdT h3t fl4 sk5 hsk
    obtain ⟨r1, r2, r3, d, m, ta, flg, r4, rd, r5, r6⟩ := id fl5
    obtain ⟨oe, vs, Tt, oT, ts, he, hec, hed, hedat, h1, hnT, hTe, hT, hdT, h3t⟩ := id r4
    have hdL : d ≠ L' := fun q => rd.2 (by rw [q]; exact List.mem_filterMap.mpr ⟨_, .head _, rfl⟩)
    have heL : e ≠ L' := fun q => by
      obtain ⟨o, es, ep, ho, hda, _⟩ := F5.ns
      rw [q, ho] at he; cases he; rw [hedat] at hda; cases hda
    have hL0 : base.get? L' = none := by
      obtain ⟨_, ⟨L9, o, hf, hn, _⟩, _⟩ := r3
      cases hf; exact hn
    refine wpAny_storeName_local rfl F5.ns (fun h6 hn6 hs6 => ?_) rfl
    have F6 : Fr base L' h6 _ := ⟨hn6, fun b o q => (hs6.2 b (fun x => by have x' : b = L' := x; rw [x', hL0] at q; cases q)).trans (F5.keep b o q), F5.above⟩
    have N6 : News base L' h6 [] := News.nil
    have hsk6 : SlotsKept s.heap h6 := slots_but hsk5 hsL hs6.2
    have he6 := (hs6.2 e heL).trans he
    have hns6 := r5.sameBut hs6 hdL
    (try dsimp only)
    (try k_fold)
    k_steps
    rename Fr _ _ _ _ => F7
    refine fault_get (Frag.In.keeps XB F7.keep) he6 hec hed hedat hns6 r6 ?_
    (try dsimp only)
    refine wpAny_nameGoes rfl F7.ns rfl (fun h8 m8 hn8 hs8 => ?_)
    refine err p ta _ _ hp (fun b o q => (hs8.2 b (fun x => by have x' : b = L' := x; rw [x', hL0] at q; cases q)).trans (F7.keep b o q)) (slots_but hsk6 hsL hs8.2)
end
end Mine
end
theorem Mine.quiet_C180 : True := by w_top off; trivial
section
set_option maxRecDepth 100000
namespace Mine
section
local macro_rules | `(tactic| walk_at "eval ListComp") => `(tactic| walk_at "Z1")
local macro_rules | `(tactic| walk_at "exec Assign cons ListComp") => `(tactic| walk_at "Z2")
local macro_rules | `(tactic| walk_at "exec For Name Name cons nil") => `(tactic| walk_at "Z3")
local macro_rules | `(tactic| walk_at "exec For Name Call cons nil") => `(tactic| walk_at "Z3")
local macro_rules | `(tactic| walk_at "binaryOp BitAnd int int") => `(tactic| (with_reducible first | refine and63 ?_ | refine and255 ?_))
local macro_rules | `(tactic| walk_at "eval Call") => `(tactic| (with_unfolding_all refine Call_ ?_))
set_option maxHeartbeats 8000000 in
theorem draw_spec {w : World} {mean : ExcName → Option Value} {mg mb : Str → Option Value} {dp un : Nat} {gd : Option (List Code)} {fr : Option (List Env)} {s : Shared} {E Q : Value → Shared → Prop}
    {h₀ : Heap} {P C : Addr} {many spot seed : Int} {tm ts tu : Tok} {n : Nat} {cs : List Value} {ns : List Int}
    (X : (Mine.hd.heap_1_39 w.params).In h₀) (T : Top Mine.hd.view_1_40 (looseW Mine.hd.view_1_40 [Str.ofString "PostError", Str.ofString "encoded"]) mean mg mb h₀) (hk0 : ∀ b o, h₀.get? b = some o → s.heap.get? b = some o) (hP0 : h₀.get? P = none)
    (hdp : dp + 10 < recursionLimit) (hun : un + 100 < cLine)
    (hP : s.heap.get? P = some { cls := .type "list", data := .seq [.ref C, .int spot ts, .int seed tu].toArray n }) (hCP : C ≠ P) (hC : s.heap.IsList C cs.toArray) (hc : IntsAre cs ns) (hcl : ns.length ≤ 1000) (hm : 0 < many) (hs0 : 0 ≤ spot) (hs1 : spot ≤ 1000)
    (ret : ∀ v t t2 n2 h' tk', 0 ≤ v → v < many → (∀ b o, b ≠ P → s.heap.get? b = some o → h'.get? b = some o) → h'.get? P = some { cls := .type "list", data := .seq [.ref C, .int (spot + 1) t2, .int seed tu].toArray n2 } → Q (.int v t) { s with heap := h', toks := tk' }) :
    wpAny (model PySem.Challenge.rw_no0352_01.row.prog w) (Ar dp un gd fr) (call (.ref 148) [.ref P, .int many tm]) Q E s := by
  revert X; k_fill; intro X
  have X1 := Frag.In.keeps X hk0
  refine' enter (binds := [(Str.ofString "pen", .ref P), (Str.ofString "many", .int many tm)]) X1 (T.keeps hk0) ?k6 ?k7 ?k8 ?k9 ?kB ?_ ?c2 ?c3 ?c4 ?c5; (case k6 => k_is); (case k7 => k_is); (case k8 => (simp only [recursionLimit] at *; (first | lia | omega))); (case k9 => exact BindsTo.of_eq rfl); (case c5 => decide); (case kB => exact locs rfl); (case c2 => exact rfl); (case c3 => exact rfl); (case c4 => exact rfl)
  intro L' h1 F0 N0
  have hPL : P ≠ L' := Nat.ne_of_lt (Nat.lt_of_lt_of_le (Heap.lt_size hP) F0.above)
  have hgP : (hideAll s.heap [P]).get? P = none := hideAll_none _ (.head _)
  have hgk : ∀ b o, b ≠ P → s.heap.get? b = some o → (hideAll s.heap [P]).get? b = some o := fun b o hb q => hideAll_get _ q (fun hm => hb (List.mem_singleton.mp hm))
  have hgz : (hideAll s.heap [P]).objs.size = s.heap.objs.size := hideAll_size _ _
  have Xg : (Mine.hd.heap_1_39 w.params).In (hideAll s.heap [P]) := X.keeps fun b o q => hgk b o (fun x => by rw [x, hP0] at q; cases q) (hk0 b o q)
  have Tg := T.keeps fun b o q => hgk b o (fun x => by rw [x, hP0] at q; cases q) (hk0 b o q)
  have hCg : (hideAll s.heap [P]).IsList C cs.toArray := by obtain ⟨o, ho, r⟩ := hC; exact ⟨o, hgk _ _ hCP ho, r⟩
  have hgo : ∀ b o, (hideAll s.heap [P]).get? b = some o → s.heap.get? b = some o := fun b o q => of_hideAll _ q
  generalize hideAll s.heap [P] = g at *
  have F' : Fr g L' h1 _ := ⟨F0.ns, fun b o q => F0.keep b o (hgo b o q), by rw [hgz]; exact F0.above⟩
  have N' : News g L' h1 [(P, _)] := fun p hp => by
    rw [List.mem_singleton.mp hp]
    exact ⟨F0.keep _ _ hP, hPL, hgP⟩
  clear F0 N0 X1 X T
  try dsimp only
  try k_fold
  k_steps
  all_goals (rename Fr _ _ _ _ => Fz; rename News _ _ _ _ => Nz; exact ret _ _ _ _ _ _ (Int.fmod_nonneg_of_pos _ hm) (Int.fmod_lt_of_pos _ hm) (fun b o hb q => Fz.keep b o (hgk b o hb q)) (Nz _ (.head _)).1)
end
end Mine
end
theorem Mine.quiet_C148 : True := by w_top off; trivial
section
open PySem.Spec PySem.SeqAt
set_option maxRecDepth 100000
namespace Mine
section
variable {prog : Program} {w : World} {A : Around} {E : Value → Shared → Prop} {s : Shared}
theorem eq_bools (k : Bool) (bs : List Bool) : ∀ y, y ∈ bs.map Value.bool → ∀ (A : Around) (s : Shared), EqAt A s y (.bool k) (isBoolOf k y) := by
  intro y hy A s
  obtain ⟨b, _, rfl⟩ := List.mem_map.mp hy
  exact EqAt.bool_bool b k
theorem while_len {bs : List Bool} : (bs.takeWhile id).length ≤ bs.length := (List.takeWhile_sublist _).length_le
theorem at_while : ∀ (bs : List Bool) (h : (bs.takeWhile id).length < (bs ++ [false]).length), (bs ++ [false])[(bs.takeWhile id).length] = false
  | [], _ => rfl
  | true :: r, h => by
    have := at_while r (by simpa using h)
    simpa using this
  | false :: r, _ => rfl
theorem before_while : ∀ (bs : List Bool) (j : Nat) (h : j < (bs ++ [false]).length), j < (bs.takeWhile id).length → (bs ++ [false])[j] = true
  | [], j, h, hj => by simp at hj
  | true :: r, 0, h, hj => rfl
  | true :: r, j + 1, h, hj => by
    have := before_while r j (by simpa using h) (by simpa using hj)
    simpa using this
  | false :: r, j, h, hj => by simp at hj
/-- the place of the first `False` -/
theorem index_false {l : Addr} {bs : List Bool} {Q : Value → Shared → Prop} (hl : s.heap.IsList l ((bs ++ [false]).map Value.bool).toArray) (hz : bs.length ≤ 1000)
    (h : Q (.int ((bs.takeWhile id).length : Nat) s.toks) { s with toks := s.toks + 1 }) : wpAny (model prog w) A (call (.builtin "list.index") [.ref l, .bool false]) Q E s := by
  obtain ⟨⟨cls, dd, data, sl⟩, ho, hc, n, hd⟩ := id hl
  simp only at hc hd
  subst hc hd
  have hw := while_len (bs := bs)
  have hj : (bs.takeWhile id).length < (bs ++ [false]).length := by rw [List.length_append, List.length_singleton]; (first | lia | omega)
  refine call_meets PySem.F.slot_list_index ⟨_, ho, rfl⟩ PySem.F.entry_list_index (PySem.F.args_list_index_2 _ _)
    (list_indexAt l ((bs ++ [false]).map Value.bool).toArray n dd sl (.bool false) (isBoolOf false) (bs.takeWhile id).length (by simpa using hj) (by (first | lia | omega)) ?_ ?_) ⟨ho, fun y hy => eq_bools false (bs ++ [false]) y (by simpa using hy) _ _, h⟩
  · have := at_while bs hj
    rw [List.getElem_toArray, List.getElem_map, this]; rfl
  · intro j hjs hlt
    have := before_while bs j (by simpa using hjs) hlt
    rw [List.getElem_toArray, List.getElem_map, this]; rfl
end
end Mine
end
section
open PySem.Spec
set_option maxRecDepth 100000
namespace Mine
section
variable {prog : Program} {w : World} {A : Around} {E : Value → Shared → Prop} {s : Shared} {h₀ : Heap} {L : Addr} {m : Str → Option Value} {env : Env}
  {elt : Expr} {x : Str} {scope : Scope} {cl : List (Str × Addr)} {S : List (Addr × Obj) → Prop} {P : Nat → Value → Prop} {Fin : List Value → List (Addr × Obj) → Prop}
/-- a comprehension's turns that leave the ledger as it was -/
theorem rest_same {n : Nat} (J : Nat → List Value → Prop) {news : List (Addr × Obj)} (h0 : J 0 [])
    (turn : ∀ i ys v I oI C oC D m₂ h tk (E' : Value → Shared → Prop), i < n → J i ys → P i v → LCg.NsObj oC m₂ → m₂ x = some v → Fr h₀ L h m → News h₀ L h ((I, oI) :: (C, oC) :: (D, LCg.lst ys) :: news) → LCg.Off3 I C D news → ((@Ne Nat I C) ∧ (@Ne Nat I D) ∧ (@Ne Nat C D)) →
      wpAny (model prog w) A (eval elt (compEnvC scope cl C env)) (LCg.CompEnd h₀ L m { s with heap := h, toks := tk } I oI C oC D (LCg.lst ys) S (fun y news' => news' = news ∧ J (i + 1) (ys ++ [y]))) E' { s with heap := h, toks := tk })
    (fin : ∀ ys, J n ys → Fin ys news) : LCg.CompRest prog w A h₀ L m env elt x scope cl s S P Fin n 0 [] news := by
  refine rest_inv (fun i ys nw => nw = news ∧ J i ys) ⟨rfl, h0⟩ ?_ ?_
  · rintro i ys nw v I oI C oC D m₂ h tk E' hi ⟨rfl, hJ⟩ hP hC hx F N off ne
    exact turn i ys v I oI C oC D m₂ h tk E' hi hJ hP hC hx F N off ne
  · rintro ys nw ⟨rfl, hJ⟩
    exact fin ys hJ
end
section
variable {prog : Program} {w : World} {A : Around} {E : Value → Shared → Prop} {s : Shared} {h₀ : Heap} {L l : Addr} {m : Str → Option Value} {news : List (Addr × Obj)} {value slice : PySem.Expr} {vs : List Value} {ns : List Int} {Q : Value → Shared → Prop}
/-- the rest of a list of ints -/
theorem slice_lfrom {x : Int} {tx : Tok} (F : Fr h₀ L s.heap m) (N : News h₀ L s.heap news) (hl : s.heap.IsList l vs.toArray) (hi : IntsAre vs ns) (h0 : 0 ≤ x) (hz : ns.length ≤ 100000)
    (h : ∀ D ws h', Fr h₀ L h' m → News h₀ L h' ((D, listOf (List.toArray ws) 0) :: news) → IntsAre ws (ns.drop x.toNat) → Q (.ref D) { s with heap := h' })
    (hs : subscripted slice false (.ref l) (.ref s.heap.objs.size) = operate [.ref s.heap.objs.size, .ref l] (getItem (.ref l) (.ref s.heap.objs.size))) (ht : ∀ r, letTemporaryGo value (.ref l) r = pure ()) :
    wpAny (model prog w) A (subscriptTail value slice (.ref l) (.ref s.heap.objs.size)) Q E { s with heap := s.heap.push { cls := .type "slice", data := .fields #[.int x tx, .none, .none] } } := by
  refine kmk_slice F N hl (.int _ _) .none (fun D h' F' N' l1 => h D (slicePick vs.toArray (some x) none none).toList h' F' ?_ (kmk_from hi h0)) hs ht (by rw [List.size_toArray, hi.length, sizeLine_eq]; (first | lia | omega))
  rw [Array.toArray_toList]
  exact N'
end
end Mine
end
section
set_option maxRecDepth 100000
namespace Mine
theorem map_str {m₁ M : Str → Option Value} {fv : Value} {o : Option Value} (hf : m₁ (Str.ofString "found") = some fv)
    (hd : ∀ z, z ≠ Str.ofString "found" → z ≠ Str.ofString "begin" → z ≠ Str.ofString "group" → z ≠ Str.ofString "plain" → z ≠ Str.ofString "count" → z ≠ Str.ofString "bits" → m₁ z = M z) :
    (fun y => if y = Str.ofString "begin" then o else m₁ y) = fun y => if y = Str.ofString "begin" then o else if y = Str.ofString "found" then some fv else if y = Str.ofString "group" then m₁ y else if y = Str.ofString "plain" then m₁ y else if y = Str.ofString "count" then m₁ y else if y = Str.ofString "bits" then m₁ y else M y := by
  funext y
  by_cases h1 : y = Str.ofString "begin"
  · simp only [if_pos h1]
  by_cases h2 : y = Str.ofString "found"
  · subst h2; rw [if_neg h1, if_neg h1, if_pos rfl]; exact hf
  by_cases h3 : y = Str.ofString "group"
  · simp only [if_neg h1, if_neg h2, if_pos h3]
  by_cases h4 : y = Str.ofString "plain"
  · simp only [if_neg h1, if_neg h2, if_neg h3, if_pos h4]
  by_cases h5 : y = Str.ofString "count"
  · simp only [if_neg h1, if_neg h2, if_neg h3, if_neg h4, if_pos h5]
  by_cases h6 : y = Str.ofString "bits"
  · simp only [if_neg h1, if_neg h2, if_neg h3, if_neg h4, if_neg h5, if_pos h6]
  · simp only [if_neg h1, if_neg h2, if_neg h3, if_neg h4, if_neg h5, if_neg h6]
    exact hd y h2 h1 h3 h4 h5 h6
theorem map_strD {m₁ M : Str → Option Value} {fv : Value} (hf : m₁ (Str.ofString "found") = some fv)
    (hd : ∀ z, z ≠ Str.ofString "found" → z ≠ Str.ofString "begin" → z ≠ Str.ofString "group" → z ≠ Str.ofString "plain" → z ≠ Str.ofString "count" → z ≠ Str.ofString "bits" → m₁ z = M z) :
    m₁ = fun y => if y = Str.ofString "begin" then m₁ y else if y = Str.ofString "found" then some fv else if y = Str.ofString "group" then m₁ y else if y = Str.ofString "plain" then m₁ y else if y = Str.ofString "count" then m₁ y else if y = Str.ofString "bits" then m₁ y else M y := by
  refine Eq.trans (funext fun y => ?_) (Eq.trans (map_str (o := m₁ (Str.ofString "begin")) hf hd) (funext fun y => ?_))
  · by_cases h : y = Str.ofString "begin"
    · rw [if_pos h, h]
    · rw [if_neg h]
  · by_cases h : y = Str.ofString "begin"
    · rw [if_pos h, if_pos h, h]
    · rw [if_neg h, if_neg h]
section
local macro_rules | `(tactic| walk_at "eval ListComp") => `(tactic| walk_at "Z1")
local macro_rules | `(tactic| walk_at "exec Assign cons ListComp") => `(tactic| (k_here; (rename Fr _ _ _ _ => lF'); (refine' Assign_ListComp_H lF' ?hLe ?hsw ?hclos ?hcell ?hkind ?hnames ?hx ?hy ?hp ?_ ?hs); (case hLe => with_unfolding_all rfl); (case hsw => with_unfolding_all rfl); (case hclos => with_unfolding_all rfl); (case hcell => decide); (case hkind => with_unfolding_all rfl); (case hnames => decide); (case hx => with_unfolding_all rfl); (case hy => with_unfolding_all rfl); (case hp => with_unfolding_all rfl); (case hs => intro _; with_unfolding_all rfl)))
local macro_rules | `(tactic| walk_at "exec For Name Name cons nil") => `(tactic| walk_at "Z3")
local macro_rules | `(tactic| walk_at "exec For Name Call cons nil") => `(tactic| walk_at "Z3")
local macro_rules | `(tactic| walk_at "binaryOp BitAnd int int") => `(tactic| (with_reducible first | refine and63 ?_ | refine and255 ?_))
local macro_rules | `(tactic| walk_at "subscriptTail") => `(tactic| walk_at "Z6")
local macro_rules | `(tactic| walk_at "call builtin:len") => `(tactic| walk_at "Z5")
local macro_rules | `(tactic| walk_at "binaryOp Add bytes bytes") => `(tactic| walk_at "Z7")
local macro_rules | `(tactic| walk_at "getMethod bytes") => `(tactic| walk_at "Z8")
local macro_rules | `(tactic| walk_at "compareOp In int bytes") => `(tactic| walk_at "Z9")
local macro_rules | `(tactic| walk_at "eval Call") => `(tactic| (with_unfolding_all refine Call_ ?_))
local macro_rules | `(tactic| walk_at "subscriptTail Name Slice ref ref") => `(tactic| (k_here; (with_reducible show wpAny _ _ (subscriptTail _ (Expr.Slice _ _ none _) (Value.ref _) (Value.ref _)) _ _ _); (with_reducible rename Fr _ _ _ _ => F'); (with_reducible rename News _ _ _ _ => N'); (with_unfolding_all refine' slice_lfrom (s := ⟨_, _, _, _, _⟩) F' N' (News.isList N' (.head _)) ?kb ?k0 ?kz ?_ ?hs ?ht); (case kb => assumption); (case k0 => (first | lia | omega)); (case kz => (first | lia | omega)); (case hs => with_unfolding_all rfl); (case ht => intro _; with_unfolding_all rfl); intro D' ws' h' F' N' hI'))
set_option maxHeartbeats 8000000 in
theorem strict_spec {w : World} {mean : ExcName → Option Value} {mg mb : Str → Option Value} {dp un : Nat} {gd : Option (List Code)} {fr : Option (List Env)} {s : Shared} {E Q : Value → Shared → Prop}
    {b : Array UInt8} {ks : List Int} {tb : Tok}
    (X : (Mine.hd.heap_1_39 w.params).In s.heap) (T : Top Mine.hd.view_1_40 (looseW Mine.hd.view_1_40 [Str.ofString "PostError", Str.ofString "encoded"]) mean mg mb s.heap) (hdp : dp + 40 < recursionLimit) (hun : un + 400 < cLine)
    (hb : KBw.bInts b = ks) (hl : ks.length ≤ 400)
    (ret : ∀ c t h' tk', (∀ b o, s.heap.get? b = some o → h'.get? b = some o) → (∃ r, strR ks = .ok r ∧ KBw.bInts c = r) → Q (.bytes c t) { s with heap := h', toks := tk' })
    (err : ∀ p t h' tk', (∀ b o, s.heap.get? b = some o → h'.get? b = some o) → strR ks = .error p → Q (.int p t) { s with heap := h', toks := tk' }) :
    wpAny (model PySem.Challenge.rw_no0352_01.row.prog w) (Ar dp un gd fr) (call (.ref 173) [.bytes b tb]) Q E s := by
  revert X; k_fill; intro X
  refine' enter (binds := [(Str.ofString "data", .bytes b tb)]) X T ?k6 ?k7 ?k8 ?k9 ?kB ?_ ?c2 ?c3 ?c4 ?c5; (case k6 => k_is); (case k7 => k_is); (case k8 => (simp only [recursionLimit] at *; (first | lia | omega))); (case k9 => exact BindsTo.of_eq rfl); (case c5 => decide); (case kB => exact locs rfl); (case c2 => exact rfl); (case c3 => exact rfl); (case c4 => exact rfl)
  intro L' h' F' N'
  try dsimp only
  try k_fold
  k_steps
  rename Fr _ _ _ _ => F0
  rename News _ _ _ _ => N0
  rename IsRange _ _ _ _ _ _ _ _ => R0
  show wpAny _ _ (pyIter _) _ _ _
  refine iter_rangeN (n := (ks.length + 3) / 4) (fun i m nw => nw = [] ∧ (∃ cf tf r, m (Str.ofString "found") = some (.bytes cf tf) ∧ strN ks i = .ok r ∧ KBw.bInts cf = r) ∧ ∀ z, z ≠ Str.ofString "found" → z ≠ Str.ofString "begin" → z ≠ Str.ofString "group" → z ≠ Str.ofString "plain" → z ≠ Str.ofString "count" → z ≠ Str.ofString "bits" → m z = (fun y => List.lookup y [(Str.ofString "data", .bytes b tb)].reverse) z) rfl R0 (small_of (by (first | lia | omega)) (by (first | lia | omega)) (by decide) (by decide)) (size_up (by decide) (by (first | lia | omega)) (by (first | lia | omega))) F0 N0 ⟨rfl, ⟨_, _, _, rfl, rfl, rfl⟩, fun z h1 _ _ _ _ _ => by simp [h1]⟩ ?_ ?_
  · clear F0 N0 R0
    rintro i t m₁ nw h tk own hi hoff ⟨rfl, ⟨cf, tf, r, hf, hr, hcf⟩, hm⟩ F₁ N₁
    rw [map_str hf hm] at F₁
    simp only [List.nil_append] at N₁
    (try k_fold)
    k_steps
    rename Fr _ _ _ _ => Fz
    rename News _ _ _ _ => Nz
    rename KBw.bInts _ = List.take _ _ => hgr
    rename Array UInt8 => bg
    rw [show (0 + (i : Int) * 4).toNat = 4 * i by (first | lia | omega), show (0 + (i : Int) * 4 + 4 - (0 + (i : Int) * 4)).toNat = 4 by (first | lia | omega)] at hgr
    obtain ⟨gr, egr⟩ : ∃ gr, gr = (ks.drop (4 * i)).take 4 := ⟨_, rfl⟩
    rw [← egr] at hgr
    have hgl : gr.length = min 4 (ks.length - 4 * i) := by rw [egr, List.length_take, List.length_drop]
    have hgz : bg.size = gr.length := by rw [← hgr, KBw.ints_length]
    have hin : ∀ k ∈ gr, 0 ≤ k ∧ k < 256 := fun k hk => KBw.ints_in (b := bg) (by rw [hgr]; exact hk)
    show wpAny _ _ (pyIter _) _ _ _
    refine src_bytes rfl Fz Nz (by rw [sizeLine_eq]; (first | lia | omega)) (fun g => ?_)
    refine rest_inv (fun j ys nw => nw = own ∧ ys = (((gr.take j).map (fun k => decide (k ∈ SGN))).map Value.bool)) ⟨rfl, rfl⟩ ?_ ?_
    · clear Fz Nz
      rintro j ys nw v I oI C oC D m₂ hh tk2 E' hj ⟨rfl, hys⟩ ⟨c, u, hc, rfl⟩ hC hx F₂ N₂ off ne
      have hc0 : (0 : Int) ≤ (c.toNat : Int) := by (first | lia | omega)
      have hc1 : (c.toNat : Int) < 256 := by have := c.toNat_lt; (first | lia | omega)
      (try k_fold)
      k_steps
      rename Fr _ _ _ _ => Fy
      rename News _ _ _ _ => Ny
      exact LCg.CompEnd.intro Fy Ny _ (fun _ h => h) off trivial ⟨rfl, by
        have hcg : gr[j]? = some (c.toNat : Int) := by rw [← hgr]; unfold KBw.bInts; simp [hc]
        rw [hys, List.take_add_one, hcg, List.map_append, List.map_append]; exact congrArg (fun b => _ ++ [Value.bool b]) (decide_eq_decide.mpr Iff.rfl)⟩
    · clear Fz Nz
      rintro ys nw ⟨rfl, hys⟩
      rw [List.take_of_length_le (by (first | lia | omega))] at hys
      intro D hh tk2 Fy Ny off
      (try dsimp only)
      (try k_fold)
      k_steps
      rename Fr _ _ _ _ => Fx
      rename News _ _ _ _ => Nx
      subst hys
      refine add_lists Fx Nx (News.isList Nx (.tail _ (.head _))) (News.isList Nx (.head _)) (fun h9 F9 N9 => ?_) (by rw [sizeLine_eq]; simp; (first | lia | omega))
      rw [show ∀ bs : List Bool, bs.map Value.bool ++ [.bool false] = (bs ++ [false]).map Value.bool from fun bs => by simp] at N9
      clear Fx Nx
      k_steps
      rename News _ _ _ _ => Nx
      refine index_false (News.isList Nx (.head _)) (by simp; (first | lia | omega)) ?_
      rw [show ((gr.map fun k => decide (k ∈ SGN)).takeWhile id).length = sgnC gr by unfold sgnC; rw [List.takeWhile_map, List.length_map]; rfl]
      have hcl : sgnC gr ≤ gr.length := (List.takeWhile_sublist _).length_le
      generalize hce : sgnC gr = c at *
      k_steps
      · rename Fr _ _ _ _ => Fx
        exact err _ _ _ _ Fx.keep (str_error hr hi (strG_e1 egr hce (by (first | lia | omega)) (by (first | lia | omega))))
      · rename Fr _ _ _ _ => Fx
        exact err _ _ _ _ Fx.keep (str_error hr hi (strG_e1 egr hce (by (first | lia | omega)) (by (first | lia | omega))))
      · rename Fr _ _ _ _ => Fx
        rename List.getD _ _ _ ≠ _ => hne
        rw [Int.toNat_natCast] at hne
        exact err _ _ _ _ Fx.keep (str_error hr hi (strG_e1 egr hce (.inr ⟨by (first | lia | omega), .inr hne⟩) (by (first | lia | omega))))
      · rename List.getD _ _ _ = _ => hne
        rw [Int.toNat_natCast] at hne
        have hg0 : ¬ (c < 2 ∨ (c < 4 ∧ (gr.length = c ∨ gr.getD c 0 ≠ 61))) := by (first | lia | omega)
        rename Fr _ _ _ _ => Fz
        rename News _ _ _ _ => Nz
        rename KBw.bInts _ = List.take _ _ => hgt
        rename Array UInt8 => bt
        rw [Int.toNat_natCast] at hgt
        have hts := sgn_taken hce
        have hwl : (gr.take c).length = c := by rw [List.length_take]; (first | lia | omega)
        have hbz : bt.size = c := by rw [← KBw.ints_length, hgt, hwl]
        show wpAny _ _ (pyIter _) _ _ _
        refine src_bytes rfl Fz Nz (by rw [sizeLine_eq]; (first | lia | omega)) (fun g2 => ?_)
        refine rest_same (fun j ys => IntsAre ys (((gr.take c).take j).map (fun k => (SGN.idxOf k : Int)))) .nil ?_ ?_
        · clear Fz Nz
          rintro j ys v I oI C oC D3 m₂ hh3 tk3 E' hj hys ⟨cc, u, hcc, rfl⟩ hC hx F₂ N₂ off3 ne
          have hcg : (gr.take c)[j]? = some (cc.toNat : Int) := by rw [← hgt]; unfold KBw.bInts; simp [hcc]
          have hk1 : (0 : Int) ≤ (cc.toNat : Int) := by (first | lia | omega)
          have hk2 : (cc.toNat : Int) < 256 := by have := cc.toNat_lt; (first | lia | omega)
          have hsn : (cc.toNat : Int) ∈ SGN := hts _ (List.mem_of_getElem? hcg)
          (try k_fold)
          k_steps
          refine bytes_index hk1 hk2 (find_sgn _ hsn) ?_
          k_steps
          rename Fr _ _ _ _ => Fy
          rename News _ _ _ _ => Ny
          exact LCg.CompEnd.intro Fy Ny _ (fun _ h => h) off3 trivial ⟨rfl, by rw [List.take_add_one, hcg, List.map_append]; exact IntsAre.append hys (.cons _ _ .nil)⟩
        · clear Fz Nz
          intro ys hys
          rw [List.take_of_length_le (by (first | lia | omega))] at hys
          intro D3 hh3 tk3 F₂ N₂ off3
          (try dsimp only)
          (try k_fold)
          k_steps
          rename Fr _ _ _ _ => Fc
          rename News _ _ _ _ => Nc
          refine' bits6_spec (Frag.In.keeps X Fc.keep) (T.keeps Fc.keep) ?hdp ?hun (News.isList Nc (.head _)) hys (by simp; (first | lia | omega)) ?b6
          case hdp => simp only [recursionLimit] at *; (first | lia | omega)
          case hun => (have := cLine_is; show un + 3 + _ < _; (first | lia | omega))
          case b6 =>
          intro D4 zs h4 tk4 hk4 hD4 hg4 hzs
          have Fd := Fc.keeps hk4
          have Nd := news_more Fc Nc hk4 hD4 hg4
          clear Fc Nc
          have hzs : IntsAre zs (sgnX gr c) := hzs
          have hxl : (sgnX gr c).length = c * 6 := by unfold sgnX; rw [flat2_length, List.length_map, hwl]
          (try dsimp only)
          (try k_fold)
          k_steps
          · rename Fr _ _ _ _ => Fx
            rename List.any _ _ = true => hany
            exact err _ _ _ _ Fx.keep (str_error hr hi (strG_e2 egr hce hg0 (one_yes hany (by (first | lia | omega))) (by (first | lia | omega))))
          · rename Fr _ _ _ _ => Fx
            rename List.any _ _ = false => hany
            rename (_ != _) = true => hpd
            rename KBw.bInts _ = List.drop _ _ => hbd
            exact err _ _ _ _ Fx.keep (str_error hr hi (strG_e3 egr hce hg0 (one_no hany (by (first | lia | omega))) ⟨by (first | lia | omega), pads_ne hbd hpd⟩ (by (first | lia | omega))))
          · rename Fr _ _ _ _ => Fx
            rename List.any _ _ = false => hany
            rename (_ != _) = false => hpd
            rename KBw.bInts _ = List.drop _ _ => hbd
            exact err _ _ _ _ Fx.keep (str_error hr hi (strG_e4 egr hce hg0 (one_no hany (by (first | lia | omega))) (fun hh => hh.2 (pads_eq hbd hpd)) ⟨by (first | lia | omega), by (first | lia | omega)⟩ (by (first | lia | omega))))
          · rename List.any _ _ = false => hany
            rename (_ != _) = false => hpd
            rename KBw.bInts _ = List.drop _ _ => hbd
            have hok := strG_ok egr hce hg0 (one_no hany (by (first | lia | omega))) (fun hh => hh.2 (pads_eq hbd hpd)) (by (first | lia | omega))
            rename Fr _ _ _ _ => Fc
            rename News _ _ _ _ => Nc
            refine' octets_spec (Frag.In.keeps X Fc.keep) (T.keeps Fc.keep) ?hdp ?hun (News.isList Nc (.tail _ (.head _))) hzs flat2_or (by (first | lia | omega)) ?oc
            case hdp => simp only [recursionLimit] at *; (first | lia | omega)
            case hun => (have := cLine_is; show un + 3 + _ < _; (first | lia | omega))
            case oc =>
            intro c5 tc5 h5 tk5 hk5 hc5
            have hc5l : (octL (sgnX gr c)).length ≤ 3 := strG_length hok
            have hrl := strN_length hr
            have Fd := Fc.keeps hk5
            have Nd := News.grown Nc hk5
            clear Fc Nc
            (try dsimp only)
            (try k_fold)
            k_steps
            rename Fr _ _ _ _ => Fz
            rename News _ _ _ _ => Nz
            rename KBw.bInts (_ ++ _) = _ => hadd
            exact InvEndN.intro Fz Nz (nx := []) ⟨rfl, ⟨_, _, _, rfl, str_ok hr hok, hadd⟩, fun z h1 h2 h3 h4 h5 h6 => by simp [h1, h2, h3, h4, h5, h6]⟩ rfl (fun p hp => nomatch hp) (fun p hp => by repeat (first | exact hp | refine List.Mem.tail _ ?_))
      · have hg0 : ¬ (c < 2 ∨ (c < 4 ∧ (gr.length = c ∨ gr.getD c 0 ≠ 61))) := by (first | lia | omega)
        rename Fr _ _ _ _ => Fz
        rename News _ _ _ _ => Nz
        rename KBw.bInts _ = List.take _ _ => hgt
        rename Array UInt8 => bt
        rw [Int.toNat_natCast] at hgt
        have hts := sgn_taken hce
        have hwl : (gr.take c).length = c := by rw [List.length_take]; (first | lia | omega)
        have hbz : bt.size = c := by rw [← KBw.ints_length, hgt, hwl]
        show wpAny _ _ (pyIter _) _ _ _
        refine src_bytes rfl Fz Nz (by rw [sizeLine_eq]; (first | lia | omega)) (fun g2 => ?_)
        refine rest_same (fun j ys => IntsAre ys (((gr.take c).take j).map (fun k => (SGN.idxOf k : Int)))) .nil ?_ ?_
        · clear Fz Nz
          rintro j ys v I oI C oC D3 m₂ hh3 tk3 E' hj hys ⟨cc, u, hcc, rfl⟩ hC hx F₂ N₂ off3 ne
          have hcg : (gr.take c)[j]? = some (cc.toNat : Int) := by rw [← hgt]; unfold KBw.bInts; simp [hcc]
          have hk1 : (0 : Int) ≤ (cc.toNat : Int) := by (first | lia | omega)
          have hk2 : (cc.toNat : Int) < 256 := by have := cc.toNat_lt; (first | lia | omega)
          have hsn : (cc.toNat : Int) ∈ SGN := hts _ (List.mem_of_getElem? hcg)
          (try k_fold)
          k_steps
          refine bytes_index hk1 hk2 (find_sgn _ hsn) ?_
          k_steps
          rename Fr _ _ _ _ => Fy
          rename News _ _ _ _ => Ny
          exact LCg.CompEnd.intro Fy Ny _ (fun _ h => h) off3 trivial ⟨rfl, by rw [List.take_add_one, hcg, List.map_append]; exact IntsAre.append hys (.cons _ _ .nil)⟩
        · clear Fz Nz
          intro ys hys
          rw [List.take_of_length_le (by (first | lia | omega))] at hys
          intro D3 hh3 tk3 F₂ N₂ off3
          (try dsimp only)
          (try k_fold)
          k_steps
          rename Fr _ _ _ _ => Fc
          rename News _ _ _ _ => Nc
          refine' bits6_spec (Frag.In.keeps X Fc.keep) (T.keeps Fc.keep) ?hdp ?hun (News.isList Nc (.head _)) hys (by simp; (first | lia | omega)) ?b6
          case hdp => simp only [recursionLimit] at *; (first | lia | omega)
          case hun => (have := cLine_is; show un + 3 + _ < _; (first | lia | omega))
          case b6 =>
          intro D4 zs h4 tk4 hk4 hD4 hg4 hzs
          have Fd := Fc.keeps hk4
          have Nd := news_more Fc Nc hk4 hD4 hg4
          clear Fc Nc
          have hzs : IntsAre zs (sgnX gr c) := hzs
          have hxl : (sgnX gr c).length = c * 6 := by unfold sgnX; rw [flat2_length, List.length_map, hwl]
          (try dsimp only)
          (try k_fold)
          k_steps
          · rename Fr _ _ _ _ => Fx
            rename List.any _ _ = true => hany
            exact err _ _ _ _ Fx.keep (str_error hr hi (strG_e2 egr hce hg0 (one_yes hany (by (first | lia | omega))) (by (first | lia | omega))))
          · rename List.any _ _ = false => hany
            have hok := strG_ok egr hce hg0 (one_no hany (by (first | lia | omega))) (fun hh => absurd hh.1 (by (first | lia | omega))) (by (first | lia | omega))
            rename Fr _ _ _ _ => Fc
            rename News _ _ _ _ => Nc
            refine' octets_spec (Frag.In.keeps X Fc.keep) (T.keeps Fc.keep) ?hdp ?hun (News.isList Nc (.tail _ (.head _))) hzs flat2_or (by (first | lia | omega)) ?oc
            case hdp => simp only [recursionLimit] at *; (first | lia | omega)
            case hun => (have := cLine_is; show un + 3 + _ < _; (first | lia | omega))
            case oc =>
            intro c5 tc5 h5 tk5 hk5 hc5
            have hc5l : (octL (sgnX gr c)).length ≤ 3 := strG_length hok
            have hrl := strN_length hr
            have Fd := Fc.keeps hk5
            have Nd := News.grown Nc hk5
            clear Fc Nc
            (try dsimp only)
            (try k_fold)
            k_steps
            rename Fr _ _ _ _ => Fz
            rename News _ _ _ _ => Nz
            rename KBw.bInts (_ ++ _) = _ => hadd
            exact InvEndN.intro Fz Nz (nx := []) ⟨rfl, ⟨_, _, _, rfl, str_ok hr hok, hadd⟩, fun z h1 h2 h3 h4 h5 h6 => by simp [h1, h2, h3, h4, h5, h6]⟩ rfl (fun p hp => nomatch hp) (fun p hp => by repeat (first | exact hp | refine List.Mem.tail _ ?_))
  · clear F0 N0 R0
    rintro m₁ nw h tk ⟨rfl, ⟨cf, tf, r, hf, hr, hcf⟩, hm⟩ F₁ N₁
    rw [map_strD hf hm] at F₁
    (try k_fold)
    k_steps
    rename Fr _ _ _ _ => Fx
    exact ret _ _ _ _ Fx.keep ⟨r, hr, hcf⟩
end
end Mine
end
theorem Mine.quiet_C173 : True := by w_top off; trivial
local macro_rules | `(tactic| walk_at "Z13") => `(tactic| (k_here; (rename Fr _ _ _ _ => lF'); (refine' Assign_ListComp_H lF' ?hLe ?hsw ?hclos ?hcell ?hkind ?hnames ?hx ?hy ?hp ?_ ?hs); (case hLe => with_unfolding_all rfl); (case hsw => with_unfolding_all rfl); (case hclos => with_unfolding_all rfl); (case hcell => decide); (case hkind => with_unfolding_all rfl); (case hnames => decide); (case hx => with_unfolding_all rfl); (case hy => with_unfolding_all rfl); (case hp => with_unfolding_all rfl); (case hs => intro _; with_unfolding_all rfl)))
section
open PySem.Spec
set_option maxRecDepth 100000
namespace Mine
section
variable {h₀ h h' : Heap} {L P : Addr} {m : Str → Option Value}
/-- one object is changed, all else stands -/
theorem fr_but (F : Fr h₀ L h m) (hk : ∀ b o, b ≠ P → h.get? b = some o → h'.get? b = some o) (hPL : P ≠ L) (hP0 : h₀.get? P = none) : Fr h₀ L h' m := by
  obtain ⟨oL, a1, a2, hoL, a3⟩ := F.ns
  refine ⟨⟨oL, a1, a2, hk L oL (fun q => hPL q.symm) hoL, a3⟩, fun b o e => hk b o ?_ (F.keep b o e), F.above⟩
  rintro rfl
  rw [hP0] at e; cases e
theorem news_but {a b : List (Addr × Obj)} {o o' : Obj} (N : News h₀ L h (a ++ (P, o) :: b)) (hk : ∀ b o, b ≠ P → h.get? b = some o → h'.get? b = some o) (ho : h'.get? P = some o') (h1 : ∀ p ∈ a, p.1 ≠ P) (h2 : ∀ p ∈ b, p.1 ≠ P) : News h₀ L h' (a ++ (P, o') :: b) := by
  have hd := N (P, o) (List.mem_append_right _ (.head _))
  intro q hq
  rcases List.mem_append.mp hq with hq | hq
  · exact ⟨hk _ _ (h1 q hq) (N q (List.mem_append_left _ hq)).1, (N q (List.mem_append_left _ hq)).2⟩
  · rcases List.mem_cons.mp hq with rfl | hq
    · exact ⟨ho, hd.2⟩
    · exact ⟨hk _ _ (h2 q hq) (N q (List.mem_append_right _ (.tail _ hq))).1, (N q (List.mem_append_right _ (.tail _ hq))).2⟩
end
/-- the pen -/
def penObj (C : Addr) (spot seed : Int) (ts tu : Tok) (n : Nat) : Obj := { cls := .type "list", data := .seq [.ref C, .int spot ts, .int seed tu].toArray n }
section
variable {w : World} {mean : ExcName → Option Value} {mg mb : Str → Option Value} {dp un : Nat} {gd : Option (List Code)} {fr : Option (List Env)} {outer : List Env} {s : Shared} {E Q : Value → Shared → Prop} {h₀ : Heap} {L : Addr} {m : Str → Option Value}
/-- a draw, upon the ledger -/
theorem draw_at {P C : Addr} {many spot seed : Int} {tm ts tu : Tok} {n : Nat} {cs : List Value} {ns : List Int} {a b : List (Addr × Obj)} {nC : Nat}
    (X : (Mine.hd.heap_1_39 w.params).In h₀) (T : Top Mine.hd.view_1_40 (looseW Mine.hd.view_1_40 [Str.ofString "PostError", Str.ofString "encoded"]) mean mg mb h₀)
    (F : Fr h₀ L s.heap m) (N : News h₀ L s.heap (a ++ (P, penObj C spot seed ts tu n) :: b)) (hCb : (C, listOf cs.toArray nC) ∈ b)
    (h1 : ∀ p ∈ a, p.1 ≠ P) (h2 : ∀ p ∈ b, p.1 ≠ P) (hc : IntsAre cs ns) (hcl : ns.length ≤ 1000) (hm : 0 < many) (hs0 : 0 ≤ spot) (hs1 : spot ≤ 1000)
    (hdp : dp + 10 < recursionLimit) (hun : un + 100 < cLine)
    (ret : ∀ v t t2 n2 h' tk', 0 ≤ v → v < many → Fr h₀ L h' m → News h₀ L h' (a ++ (P, penObj C (spot + 1) seed t2 tu n2) :: b) → Q (.int v t) { s with heap := h', toks := tk' }) :
    wpAny (model PySem.Challenge.rw_no0352_01.row.prog w) (Ar dp un gd fr) (call (.ref 148) [.ref P, .int many tm]) Q E s := by
  have hP := N (P, _) (List.mem_append_right _ (.head _))
  refine draw_spec X T F.keep hP.2.2 hdp hun hP.1 (h2 _ hCb) (News.isList N (List.mem_append_right _ (.tail _ hCb))) hc hcl hm hs0 hs1 fun v t t2 n2 h' tk' hv0 hv1 hk ho => ?_
  exact ret v t t2 n2 h' tk' hv0 hv1 (fr_but F hk hP.2.1 hP.2.2) (news_but N hk ho h1 h2)
/-- _law_heard, upon the ledger -/
theorem heard_at {b : Array UInt8} {ks : List Int} {tb : Tok} {env : Env} {news : List (Addr × Obj)}
    (X : (Mine.hd.heap_1_39 w.params).In h₀) (T : Top Mine.hd.view_1_40 (looseW Mine.hd.view_1_40 [Str.ofString "PostError", Str.ofString "encoded"]) mean mg mb h₀)
    (F : Fr h₀ L s.heap m) (N : News h₀ L s.heap news) (K : Below (Ar dp un gd (some [env])) h₀ [env] s.heap) (hf : env.frame = some L) (hdp : dp + 70 < recursionLimit) (hun : un + 700 < cLine)
    (hb : KBw.bInts b = ks) (hl : ks.length ≤ 1000)
    (ret : ∀ c t h' tk', Fr h₀ L h' m → News h₀ L h' news → strR ks = .ok (KBw.bInts c) → Q (.bytes c t) { s with heap := h', toks := tk' })
    (err : ∀ p t h' tk', Fr h₀ L h' m → News h₀ L h' news → strR ks = .error p → Q (.int p t) { s with heap := h', toks := tk' }) :
    wpAny (model PySem.Challenge.rw_no0352_01.row.prog w) (Ar dp un gd (some [env])) (call (.ref 180) [.bytes b tb]) Q E s := by
  have hmem : ∀ a : Addr, a ∈ [env].filterMap (·.frame) ↔ a = L := fun a => by simp [hf]
  have hL0 : h₀.get? L = none := Heap.get?_none_of_le F.above
  have hkeep : ∀ b o, h₀.get? b = some o → (HideF s.heap [env]).get? b = some o := fun b o q => hideAll_get _ (F.keep b o q) fun hm => by
    rw [(hmem b).mp hm, hL0] at q; cases q
  refine heard_spec (X.keeps F.keep) (T.keeps F.keep) (below_hidden K) hdp hun (X.keeps hkeep) (T.keeps hkeep) (Nat.le_of_eq (hideAll_size _ _)) hb hl (fun r c t h' tk' hr hk hc => ?_) (fun p t h' tk' hp hs hsk => ?_)
  · rw [sdR_eq] at hr
    exact ret c t h' tk' (F.keeps hk) (N.grown hk) (by rw [hr, hc])
  · rw [sdR_eq] at hp
    have hk2 : ∀ b o, b ≠ L → s.heap.get? b = some o → h'.get? b = some o := fun b o hb q => hs b o (hideAll_get _ q fun hm => hb ((hmem b).mp hm))
    refine err p t h' tk' ⟨hsk.up.ns F.ns, fun b o q => hs b o (hkeep b o q), F.above⟩ (fun q hq => ⟨hk2 _ _ (N q hq).2.1 (N q hq).1, (N q hq).2⟩) hp
end
/-! octets, nine times -/
theorem gives_mul_none {t u : Tok} : Gives (Builtin.«bytes.__mul__» ⟨[.bytes #[] t, .int 9 u], []⟩) (.val (.bytes #[] t)) := by
  refine .of_wp fun M A E s Q hq => ?_
  show wpAny M A (Builtin.Bytes.repeatArgs .bytes "__mul__" ⟨[.bytes #[] t, .int 9 u], []⟩ >>= fun r => _) _ E s
  refine wpAny_bind (wpAny_of_eq (BMul.args_eq (by decide)) ?_)
  refine wpAny_bind (wpAny_of_eq (a := #[]) rfl ?_)
  show wpAny M A (if (#[] : Array UInt8).size * (9 : Int).toNat ≥ 2 ^ 63 then _ else _) _ E s
  rw [if_neg (by decide)]
  refine bm_if_true (show ((#[] : Array UInt8).size * Int.toNat 9 == (#[] : Array UInt8).size) = true from rfl) ?_
  refine wpAny_bind (wpAny_typeOf (typeIs_bytes s #[] t) ?_)
  exact wpAny_bind (wpAny_rule (wpAny_pure ⟨_, rfl, hq⟩))
section
variable {prog : Program} {w : World} {A : Around} {E : Value → Shared → Prop} {s : Shared}
theorem bytes_nine {b : Array UInt8} {ks : List Int} {t u : Tok} {Q : Value → Shared → Prop} (hb : KBw.bInts b = ks) (hz : ks.length ≤ 16)
    (h : ∀ c t' k, KBw.bInts c = (List.replicate 9 ks).flatten → Q (.bytes c t') { s with toks := k }) :
    wpAny (model prog w) A (binaryOp .Mult (.bytes b t) (.int 9 u)) Q E s := by
  have hbz : b.size = ks.length := by rw [← hb, KBw.ints_length]
  by_cases h0 : b.toList = []
  · have e : b = #[] := Array.toList_eq_nil_iff.mp h0
    subst e
    have hk : ks = [] := hb.symm
    subst hk
    refine wpAny_binaryOp_repeat (T := "bytes") (U := "int") (by decide) (fun s' => typeIs_bytes s' _ t) (fun s' => typeIs_int s' 9 u) BMul.noFill PySem.F.fills_int_mul PySem.F.slot_int_rmul BMul.repeats PySem.F.slot_int_index.lookup
      (call_gives PySem.F.slot_int_rmul (typeIs_int s 9 u) PySem.F.entry_int_rmul (PySem.F.args_int_rmul_2 _ _) (BMul.int_declines 9 u _ t)
        ⟨rfl, call_gives BMul.slot_mul (typeIs_bytes s _ t) BMul.entry_mul (BMul.args_mul _ _) gives_mul_none ?_⟩)
    exact h #[] t s.toks rfl
  · have key := bytes_mul_any (prog := prog) (w := w) (A := A) (E := E) (s := s) (Q := Q) (t := t) (u := u) (b := b.toList) (n := 9) h0 (by decide) (by decide) (by simp; (first | lia | omega)) (fun t' k => h _ t' k ?_)
    · exact key
    · unfold KBw.bInts at hb ⊢
      rw [← hb]
      simp
end
theorem ints_inj {b c : Array UInt8} (h : KBw.bInts b = KBw.bInts c) : b.toList = c.toList := by
  unfold KBw.bInts at h
  exact (List.map_inj_right (fun x y hxy => UInt8.toNat_inj.mp (by (first | lia | omega)))).mp h
theorem ints_same {b c : Array UInt8} (h : KBw.bInts b = KBw.bInts c) : (b.toList != c.toList) = false := by
  rw [ints_inj h]; simp
theorem ints_eq {b c : Array UInt8} (h : KBw.bInts b = KBw.bInts c) : (b.toList == c.toList) = true := by
  rw [ints_inj h]; simp
end Mine
namespace Mine
theorem hold_in {P : Prop} (h : Hold P) : P := h
end Mine
namespace Mine
theorem joinL_length (sep : List Int) : ∀ ps : List (List Int), (joinL sep ps).length ≤ ps.flatten.length + sep.length * ps.length
  | [] => by simp [joinL]
  | x :: r => by
    rw [joinL_flat, List.length_append, List.flatten_cons, List.length_append, List.length_cons]
    have key : ∀ r : List (List Int), (r.flatMap fun p => sep ++ p).length = r.flatten.length + sep.length * r.length := by
      intro r
      induction r with
      | nil => rfl
      | cons y r ih =>
        rw [List.flatMap_cons, List.length_append, ih, List.length_append, List.flatten_cons, List.length_append, List.length_cons, Nat.mul_succ]
        (first | lia | omega)
    rw [key, Nat.mul_succ]
    (first | lia | omega)
theorem inLines_length (ks : List Int) (w : Nat) : (inLines ks w).length ≤ 3 * ks.length := by
  unfold inLines
  split
  · (first | lia | omega)
  · rename_i hw
    have h1 := joinL_length [13, 10] (pieces ks w (nPieces ks.length w))
    rw [pieces_flat, List.length_take] at h1
    have h2 : (pieces ks w (nPieces ks.length w)).length = nPieces ks.length w := by unfold pieces; rw [List.length_map, List.length_range]
    rw [h2] at h1
    have h3 := nPieces_le_len (len := ks.length) (w := w) (by (first | lia | omega))
    have h4 : ([13, 10] : List Int).length = 2 := rfl
    rw [h4] at h1
    (first | lia | omega)
theorem encL_length (ks : List Int) (w : Nat) : (encL ks w).length ≤ 6 * ks.length + 30 := by
  have h1 := inLines_length (oneL ks) w
  have h2 := oneL_length ks
  unfold encL
  (first | lia | omega)
theorem nine_oct {ks : List Int} (h : ∀ k ∈ ks, Oct k) : ∀ k ∈ (List.replicate 9 ks).flatten, Oct k := fun k hk => by
  obtain ⟨l, hl, hkl⟩ := List.mem_flatten.mp hk
  rw [List.eq_of_mem_replicate hl] at hkl
  exact h k hkl
theorem nine_length (ks : List Int) : ((List.replicate 9 ks).flatten).length = 9 * ks.length := by simp; (first | lia | omega)
end Mine
namespace Mine
/-- the menu's other signs -/
def MTL : List Int := [61, 61, 61, 32, 10, 45, 0, 255]
theorem mt_length : MTL.length = 8 := rfl
theorem mt_ints : KBw.bInts #[61, 61, 61, 32, 10, 45, 0, 255] = MTL := rfl
end Mine
namespace Mine
section
variable {prog : Program} {w : World} {A : Around} {E : Value → Shared → Prop} {s : Shared}
/-- an item of a list of bytes of at most one octet -/
theorem item_small {value slice : Expr} {D : Addr} {its : Array Value} {k : Int} {t : Tok} {Q : Value → Shared → Prop} (hl : s.heap.IsList D its) (h0 : 0 ≤ k) (h1 : k < its.size) (hz : its.size ≤ 1000)
    (hv : ∀ v ∈ its.toList, ∃ b t, v = .bytes b t ∧ b.size ≤ 1) (h : ∀ b t l, KBw.bInts b = l → l.length ≤ 1 → Q (.bytes b t) s)
    (hs : subscripted slice false (.ref D) (.int k t) = operate [.ref D, .int k t] (getItem (.ref D) (.int k t))) :
    wpAny (model prog w) A (subscriptTail value slice (.ref D) (.int k t)) Q E s := by
  have hk : k.toNat < its.size := by (first | lia | omega)
  obtain ⟨b, tb, he, hb⟩ := hv its[k.toNat] (by simp)
  refine tail_any hl.typeIs PySem.slot_list_getitem.lookup (wpAny_getItem_list hl h0 (by (first | lia | omega)) (x := .bytes b tb) (by rw [Array.getElem?_eq_getElem hk, he]) (h b tb _ rfl (by rw [KBw.ints_length]; exact hb))) hs
end
theorem some_len {b : Array UInt8} {l : List Int} (n : Nat) (h : KBw.bInts b = l) (hl : l.length ≤ n) : ∃ T, KBw.bInts b = T ∧ T.length ≤ n := ⟨l, h, hl⟩
end Mine
end
section
set_option maxRecDepth 100000
namespace Mine
section
local macro_rules | `(tactic| walk_at "eval ListComp") => `(tactic| walk_at "Z1")
local macro_rules | `(tactic| walk_at "exec Assign cons ListComp") => `(tactic| walk_at "Z13")
local macro_rules | `(tactic| walk_at "exec For Name Name cons nil") => `(tactic| walk_at "Z3")
local macro_rules | `(tactic| walk_at "exec For Name Call cons nil") => `(tactic| walk_at "Z3")
local macro_rules | `(tactic| walk_at "binaryOp BitAnd int int") => `(tactic| (with_reducible first | refine and63 ?_ | refine and255 ?_))
local macro_rules | `(tactic| walk_at "subscriptTail") => `(tactic| walk_at "Z6")
local macro_rules | `(tactic| walk_at "call builtin:len") => `(tactic| walk_at "Z5")
local macro_rules | `(tactic| walk_at "binaryOp Add bytes bytes") => `(tactic| walk_at "Z7")
local macro_rules | `(tactic| walk_at "getMethod bytes") => `(tactic| walk_at "Z8")
local macro_rules | `(tactic| walk_at "compareOp In int bytes") => `(tactic| walk_at "Z9")
local macro_rules | `(tactic| walk_at "eval Call") => `(tactic| (with_unfolding_all refine Call_ ?_))
local macro_rules | `(tactic| walk_at "call ref") => `(tactic| (refine hold_in ?_))
theorem law_walk.tw5123171411619025921 : True := trivial
theorem law_walk.tw8480634766571863564 : True := trivial
theorem law_walk.tw583991755219690200 : True := trivial
theorem law_walk.tw296180040996304996 : True := trivial
theorem law_walk.tw17151475802405297598 : True := trivial
theorem law_walk.tw7102155933189859701 : True := trivial
theorem law_walk.tw14284208715777796981 : True := trivial
theorem law_walk.tw16646181753305177258 : True := trivial
theorem law_walk.tw5111013765409397190 : True := trivial
theorem law_walk.tw11948163389541680817 : True := trivial
theorem law_walk.tw9614167044172017575 : True := trivial
theorem law_walk.tw2306348491205089524 : True := trivial
theorem law_walk.tw17503048201020566150 : True := trivial
theorem law_walk.tw16621082731844528563 : True := trivial
theorem law_walk.tw9025388718504562314 : True := trivial
theorem law_walk.tw6407279749112937241 : True := trivial
theorem law_walk.tw3397640014722814597 : True := trivial
theorem law_walk.tw2794590637635899929 : True := trivial
theorem law_walk.tw11003515547874723151 : True := trivial
theorem law_walk.tw8378071691432599981 : True := trivial
theorem law_walk.tw14240879651608825115 : True := trivial
theorem law_walk.tw15637905503817521475 : True := trivial
theorem law_walk.tw13012963976651126157 : True := trivial
theorem law_walk.tw1506947507783032290 : True := trivial
theorem law_walk.tw10157507484109336835 : True := trivial
theorem law_walk.tw9175309087135656087 : True := trivial
theorem law_walk.tw8031706477840214613 : True := trivial
theorem law_walk.tw16893689774605216254 : True := trivial
theorem law_walk.tw10690968490827705138 : True := trivial
theorem law_walk.tw3229189241546203836 : True := trivial
theorem law_walk.tw13239012831020974903 : True := trivial
theorem law_walk.tw1324468810271576928 : True := trivial
theorem law_walk.tw2883566381717434194 : True := trivial
theorem law_walk.tw13714257558657638190 : True := trivial
theorem law_walk.tw8010708191331470744 : True := trivial
theorem law_walk.tw11982992778822352237 : True := trivial
theorem law_walk.tw17449492887640561248 : True := trivial
theorem law_walk.tw1420760975202630414 : True := trivial
theorem law_walk.tw5976494177984508443 : True := trivial
theorem law_walk.tw16314443678151020817 : True := trivial
theorem law_walk.tw16352332493698178272 : True := trivial
theorem law_walk.tw4657591597472639979 : True := trivial
theorem law_walk.tw5768517256161041778 : True := trivial
theorem law_walk.tw18105684149968559586 : True := trivial
theorem law_walk.tw8764936924400526108 : True := trivial
theorem law_walk.tw16452647876230661981 : True := trivial
theorem law_walk.tw4562229481737148886 : True := trivial
theorem law_walk.tw7370938304984870482 : True := trivial
theorem law_walk.tw9499157157656621582 : True := trivial
theorem law_walk.tw13131166574269975942 : True := trivial
theorem law_walk.tw309411868979763249 : True := trivial
theorem law_walk.tw14924230639997583100 : True := trivial
theorem law_walk.tw8209524980812014044 : True := trivial
theorem law_walk.tw4645285122997073780 : True := trivial
theorem law_walk.tw12009826905505109769 : True := trivial
theorem law_walk.tw14971813819131637940 : True := trivial
theorem law_walk.tw15150796270177616047 : True := trivial
theorem law_walk.tw12494027469739420667 : True := trivial
theorem law_walk.tw5285187710974808773 : True := trivial
theorem law_walk.tw5004049897617639706 : True := trivial
theorem law_walk.tw18274630477781228279 : True := trivial
theorem law_walk.tw10349880028629904836 : True := trivial
theorem law_walk.tw10829815973815633464 : True := trivial
theorem law_walk.tw4650864048630087687 : True := trivial
theorem law_walk.tw4785864527425131527 : True := trivial
theorem law_walk.tw10639959928510409895 : True := trivial
theorem law_walk.tw11923195694410398313 : True := trivial
theorem law_walk.tw977902512717651210 : True := trivial
theorem law_walk.tw16660429752967501896 : True := trivial
theorem law_walk.tw3540575760605503442 : True := trivial
theorem law_walk.tw8911797091718074820 : True := trivial
theorem law_walk.tw15608699163130600928 : True := trivial
theorem law_walk.tw14771489958863429370 : True := trivial
theorem law_walk.tw9452348037586664839 : True := trivial
theorem law_walk.tw5763417355346935721 : True := trivial
theorem law_walk.tw12627331199131324555 : True := trivial
theorem law_walk.tw16894674626988043528 : True := trivial
theorem law_walk.tw1962610487425886148 : True := trivial
theorem law_walk.tw6221563783624007708 : True := trivial
theorem law_walk.tw10618763033596195338 : True := trivial
theorem law_walk.tw16736113708867630118 : True := trivial
theorem law_walk.tw13486275484559421317 : True := trivial
theorem law_walk.tw6308444445224335033 : True := trivial
theorem law_walk.tw5678853151643781460 : True := trivial
theorem law_walk.tw13726853253858281453 : True := trivial
theorem law_walk.tw17118425190982333173 : True := trivial
theorem law_walk.tw3859728766915173161 : True := trivial
theorem law_walk.tw1407156338458783363 : True := trivial
theorem law_walk.tw1391093639713574961 : True := trivial
theorem law_walk.tw17823697356111105316 : True := trivial
theorem law_walk.tw9774065109101459460 : True := trivial
theorem law_walk.tw15166187191399147401 : True := trivial
theorem law_walk.tw3248996168741035358 : True := trivial
theorem law_walk.tw8219332338532164347 : True := trivial
theorem law_walk.tw12216838664848171149 : True := trivial
theorem law_walk.tw6895732191639561206 : True := trivial
theorem law_walk.tw13870901821450722198 : True := trivial
theorem law_walk.tw2891813122276395325 : True := trivial
theorem law_walk.tw6814169468445859271 : True := trivial
theorem law_walk.tw13422099721287017408 : True := trivial
theorem law_walk.tw6451171169170823791 : True := trivial
theorem law_walk.tw6049634886937883345 : True := trivial
theorem law_walk.tw10166819484318322918 : True := trivial
theorem law_walk.tw12066832245886349031 : True := trivial
theorem law_walk.tw15670682840938126767 : True := trivial
theorem law_walk.tw4301747711573494155 : True := trivial
theorem law_walk.tw13044207499326380188 : True := trivial
theorem law_walk.tw14553445138279101417 : True := trivial
theorem law_walk.tw18335874846033304908 : True := trivial
theorem law_walk.tw4929543586258360427 : True := trivial
theorem law_walk.tw3004964013433161768 : True := trivial
theorem law_walk.tw17238711329945602061 : True := trivial
theorem law_walk.tw13088496971643157351 : True := trivial
theorem law_walk.tw3072583708981276997 : True := trivial
theorem law_walk.tw15702739590981716756 : True := trivial
theorem law_walk.tw15647844531929859867 : True := trivial
theorem law_walk.tw8830698684499257924 : True := trivial
theorem law_walk.tw13573928544673780044 : True := trivial
theorem law_walk.tw12960922864970901034 : True := trivial
theorem law_walk.tw16588903437976998387 : True := trivial
theorem law_walk.tw8192776089968869677 : True := trivial
theorem law_walk.tw10658639562909679755 : True := trivial
theorem law_walk.tw9095732442746558090 : True := trivial
theorem law_walk.tw7620564344729246804 : True := trivial
theorem law_walk.tw15068387895767642262 : True := trivial
theorem law_walk.tw14245692378676067059 : True := trivial
theorem law_walk.tw3708943436980083059 : True := trivial
theorem law_walk.tw10575778595181894031 : True := trivial
theorem law_walk.tw10644555465049499542 : True := trivial
theorem law_walk.tw16544933085067678609 : True := trivial
theorem law_walk.tw14327785045594728570 : True := trivial
theorem law_walk.tw16288356565122131320 : True := trivial
theorem law_walk.tw804102523834244518 : True := trivial
theorem law_walk.tw3661333082589093490 : True := trivial
theorem law_walk.tw17467095279790736570 : True := trivial
theorem law_walk.tw5202491880151908442 : True := trivial
theorem law_walk.tw17577931810382400309 : True := trivial
theorem law_walk.tw15417956146314419576 : True := trivial
theorem law_walk.tw9885818699757977590 : True := trivial
theorem law_walk.tw1248838340124212405 : True := trivial
theorem law_walk.tw11964463076307416495 : True := trivial
theorem law_walk.tw4715142628854536148 : True := trivial
theorem law_walk.tw3901379447191726684 : True := trivial
theorem law_walk.tw6858619185670046997 : True := trivial
theorem law_walk.tw10873826724240334245 : True := trivial
theorem law_walk.tw17994628964845550410 : True := trivial
theorem law_walk.tw8950740782337231261 : True := trivial
theorem law_walk.tw3766263908530267476 : True := trivial
theorem law_walk.tw2191982584930282844 : True := trivial
theorem law_walk.tw1960160720123716315 : True := trivial
theorem law_walk.tw1913036947019820295 : True := trivial
theorem law_walk.tw9437996820781617458 : True := trivial
theorem law_walk.tw14940420482638819504 : True := trivial
theorem law_walk.tw9446009449886439872 : True := trivial
theorem law_walk.tw15508825193916447706 : True := trivial
theorem law_walk.tw8860917272210807666 : True := trivial
theorem law_walk.tw1807287435005278155 : True := trivial
theorem law_walk.tw6442823786168487660 : True := trivial
theorem law_walk.tw13648519344018371485 : True := trivial
theorem law_walk.tw16188769599606678643 : True := trivial
theorem law_walk.tw3756160188692538100 : True := trivial
theorem law_walk.tw6315668286158482565 : True := trivial
theorem law_walk.tw16910148942730480082 : True := trivial
theorem law_walk.tw15887692210645656175 : True := trivial
theorem law_walk.tw3328707826287525414 : True := trivial
theorem law_walk.tw7100947392080961120 : True := trivial
theorem law_walk.tw14933636063808288048 : True := trivial
theorem law_walk.tw1107684660248113442 : True := trivial
theorem law_walk.tw5734418796060860671 : True := trivial
theorem law_walk.tw7783959777113460643 : True := trivial
set_option Elab.async true in
set_option maxHeartbeats 8000000 in
theorem law_walk : PySem.Challenge.rw_no0352_01.Holds := by
  w_on; o_law; k_head
  case hw => w_witness2
  case hc =>
  w_top off
  k_go0
  all_goals (try k_fold)
  rename Top _ _ _ _ _ _ => T0
  rename Below _ _ _ _ => K0
  rename IntsAre _ _ => hI
  rename Heap.IsList _ _ _ => hL
  rename Frag.In _ _ => X0
  rename ¬ _ < _ => hlen
  rename Fr _ _ _ _ => F0
  rename News _ _ _ _ => N0
  (try (rename Ground _ _ _ _ _ _ _ _ _ => q1; clear q1))
  (try (rename Tables _ _ _ _ => q5; clear q5))
  (try (rename TopE _ _ _ _ => q6; clear q6))
  (try (rename TopW _ _ _ => q7; clear q7))
  (try (rename Glob _ _ _ _ _ _ _ _ _ => q3; clear q3))
  (try (rename LooseAre _ _ _ => q4; clear q4))
  (try (rename BMod _ _ _ _ _ => q8; clear q8))
  (try (rename ReadsAllW _ _ _ _ _ _ => q9; clear q9))
  (try (rename Well _ _ _ _ => q10; clear q10))
  rename List Int => ns
  rename Shared => s₁
  rename World => w
  rename_i oM oP dM dP Y0
  clear Y0
  -- the head's own written heap and view are those that the contracts name
  replace X0 : (Mine.hd.heap_1_39 w.params).In _ := X0
  revert X0; k_fill; intro X0
  replace T0 : Top Mine.hd.view_1_40 (looseW Mine.hd.view_1_40 [Str.ofString "PostError", Str.ofString "encoded"]) _ _ _ _ := T0
  replace dM : oM.data = .cell none := dM
  replace dP : oP.data = .cell none := dP
  k_steps
  rename Fr _ _ _ _ => F1
  rename News _ _ _ _ => N1
  rename IntsAre _ _ => hI1
  have hl60 := hI1.length
  generalize bindL _ _ _ = m0 at *
  have hl60' : (ns.take 60).length ≤ 60 := by rw [List.length_take]; (first | lia | omega)
  show wpAny _ _ (pyIter _) _ _ _
  refine src_list rfl F1 N1 (.inr ⟨_, .head _, rfl, 0, rfl⟩) (by rw [List.size_toArray, hl60, sizeLine_eq]; (first | lia | omega)) (fun g => ?_)
  refine rest_same (fun j ys => ∃ zs, IntsAre ys zs ∧ zs.length = j ∧ ∀ z ∈ zs, 0 ≤ z ∧ z < 1000003) ⟨[], .nil, rfl, nofun⟩ ?_ ?_
  · clear F1 N1
    rintro j ys v I oI C oC D m₂ hh tk E' hj ⟨zs, hys, hzl, hzs⟩ hv hC hx F₂ N₂ off ne
    obtain ⟨k, t, rfl, hk⟩ := hI1.at j v (by simpa using hv)
    (try k_fold)
    k_steps
    rename Fr _ _ _ _ => Fy
    rename News _ _ _ _ => Ny
    exact LCg.CompEnd.intro Fy Ny _ (fun _ h => h) off (.inr ⟨_, .head _, rfl, 0, rfl⟩) ⟨rfl, zs ++ [k.fmod 1000003], IntsAre.append hys (.cons _ _ .nil), by rw [List.length_append, hzl]; rfl, fun z hz => by
      rcases List.mem_append.mp hz with hz | hz
      · exact hzs z hz
      · rw [List.mem_singleton.mp hz]
        exact ⟨Int.fmod_nonneg_of_pos _ (by decide), Int.fmod_lt_of_pos _ (by decide)⟩⟩
  · clear F1 N1
    rintro ys ⟨zs, hys, hzl, hzs⟩
    rw [List.size_toArray, hl60] at hzl
    intro C hh tk F₂ N₂ off
    have hCP : C ≠ s₁.heap.objs.size + 1 := fun q => off.2.2.1 q.symm
    have hCM : C ≠ s₁.heap.objs.size + 1 + 1 := fun q => off.2.1 q.symm
    replace N₂ : News s₁.heap s₁.heap.objs.size hh [(C, LCg.lst ys), (s₁.heap.objs.size + 1 + 1, oM), (s₁.heap.objs.size + 1, oP)] := fun p hp => N₂ p (by
      rcases List.mem_cons.mp hp with h | hp
      · exact h ▸ .head _
      · exact .tail _ (.tail _ hp))
    clear off hI1 hl60
    (try dsimp only)
    (try k_fold)
    k_steps
    rename Fr _ _ _ _ => F1
    rename News _ _ _ _ => N1
    rename Obj.data _ = _ => dP1
    clear dP
    rename_i tu9 _ P _ lt1 _ oP1
    obtain ⟨tu, htu⟩ : ∃ t, t = tu9 + 1 := ⟨_, rfl⟩
    rw [← htu] at N1
    have hMP : s₁.heap.objs.size + 1 + 1 ≠ P := Nat.ne_of_lt lt1.2.1
    have hcP : s₁.heap.objs.size + 1 ≠ P := Nat.ne_of_lt lt1.2.2
    have hCP' : C ≠ P := Nat.ne_of_lt lt1.1
    have hrest : ∀ p ∈ [(C, LCg.lst ys), (s₁.heap.objs.size + 1 + 1, oM), (s₁.heap.objs.size + 1, oP1)], p.1 ≠ P := apart_cons hCP' (apart_cons hMP (apart_cons hcP apart_nil))
    refine' draw_at (a := []) (b := [(C, LCg.lst ys), (s₁.heap.objs.size + 1 + 1, oM), (s₁.heap.objs.size + 1, oP1)]) X0 T0 F1 N1 (.head _) apart_nil hrest hys (by (first | lia | omega)) (by decide) (by decide) (by decide) ?hdp ?hun ?dr1
    case hdp => decide
    case hun => (have := cLine_is; show 4 + 3 + 100 < _; (first | lia | omega))
    case dr1 =>
    clear F1 N1
    intro v0 t0 t2 n2 hd1 tkd1 v00 v01 F1 N1
    (try dsimp only)
    (try k_fold)
    k_steps
    rename Fr _ _ _ _ => F2
    rename News _ _ _ _ => N2
    rename IsRange _ _ _ _ _ _ _ _ => R2
    simp only [List.nil_append] at N2
    show wpAny _ _ (pyIter _) _ _ _
    refine src_range (n := v0.toNat) rfl F2 N2 R2 (small_of (by (first | lia | omega)) (by (first | lia | omega)) (by decide) (by decide)) (size_up (by decide) (by (first | lia | omega)) (by (first | lia | omega))) (by rw [sizeLine_eq]; (first | lia | omega)) (fun g9 => ?_)
    refine rest_inv (fun i us nw => ∃ t n os, nw = (P, penObj C (1 + (i : Int)) (zs.sum.fmod 997) t tu n) :: [(C, LCg.lst ys), (s₁.heap.objs.size + 1 + 1, oM), (s₁.heap.objs.size + 1, oP1)] ∧ IntsAre us os ∧ os.length = i ∧ ∀ k ∈ os, Oct k) ⟨t2, n2, [], rfl, .nil, rfl, nofun⟩ ?_ ?_
    · clear F2 N2 R2
      rintro i us nw v I oI C2 oC2 D m₂ hh2 tk3 E' hi ⟨t3, n3, os, rfl, hus, hol, hoct⟩ ⟨tv, rfl⟩ hC hx F₂ N₂ off ne
      (try k_fold)
      k_steps
      rename Fr _ _ _ _ => F1
      rename News _ _ _ _ => N1
      refine' draw_at (a := [(I, oI), (C2, oC2), (D, LCg.lst us)]) (b := [(C, LCg.lst ys), (s₁.heap.objs.size + 1 + 1, oM), (s₁.heap.objs.size + 1, oP1)]) X0 T0 F1 N1 (.head _) (apart_cons (Ne.symm off.1.1) (apart_cons (Ne.symm off.1.2.1) (apart_cons (Ne.symm off.1.2.2) apart_nil))) hrest hys (by (first | lia | omega)) (by decide) (by (first | lia | omega)) (by (first | lia | omega)) ?hdp ?hun ?dr2
      case hdp => decide
      case hun => (have := cLine_is; show 4 + 3 + 100 < _; (first | lia | omega))
      case dr2 =>
      clear F1 N1
      intro v t4 t5 n5 hd2 tkd2 v0 v1 F1 N1
      (try dsimp only)
      (try k_fold)
      k_steps
      rename Fr _ _ _ _ => Fy
      rename News _ _ _ _ => Ny
      exact LCg.CompEnd.intro Fy Ny ((P, penObj C (1 + (i : Int) + 1) (zs.sum.fmod 997) t5 tu n5) :: [(C, LCg.lst ys), (s₁.heap.objs.size + 1 + 1, oM), (s₁.heap.objs.size + 1, oP1)]) (fun _ h => h) off trivial ⟨t5, n5, os ++ [v], by rw [show (1 + ((i + 1 : Nat) : Int)) = 1 + (i : Int) + 1 by (first | lia | omega)], IntsAre.append hus (.cons _ _ .nil), by rw [List.length_append, hol]; rfl, fun k hk => by
        rcases List.mem_append.mp hk with hk | hk
        · exact hoct k hk
        · rw [List.mem_singleton.mp hk]
          exact ⟨by assumption, by assumption⟩⟩
    · clear F2 N2 R2
      rintro us nw ⟨t3, n3, os, rfl, hus, hol, hoct⟩
      intro D hh2 tk3 F₂ N₂ off
      (try dsimp only)
      (try k_fold)
      k_steps
      rename Fr _ _ _ _ => F1
      rename News _ _ _ _ => N1
      rename KBa.In _ => hIn
      have hO := KBa.ints_make hIn
      rename 0 ≤ _ ∧ _ => hsum
      clear hsum hIn off hus
      generalize byteArr os = ob at *
      replace N1 := fun p hp => N1 p (.tail _ hp)
      have hol14 : os.length ≤ 14 := by (first | lia | omega)
      have hsp : 0 ≤ 1 + (v0.toNat : Int) ∧ 1 + (v0.toNat : Int) ≤ 20 := by (first | lia | omega)
      generalize 1 + (v0.toNat : Int) = sp at *
      refine' draw_at (a := []) (b := [(C, LCg.lst ys), (s₁.heap.objs.size + 1 + 1, oM), (s₁.heap.objs.size + 1, oP1)]) X0 T0 F1 N1 (.head _) apart_nil hrest hys (by (first | lia | omega)) (by decide) hsp.1 (by (first | lia | omega)) ?hdp ?hun ?dr3
      case hdp => decide
      case hun => (have := cLine_is; show 4 + 3 + 100 < _; (first | lia | omega))
      case dr3 =>
      clear F1 N1
      intro wd t4 t5 n5 hd3 tkd3 wd0 wd1 F1 N1
      (try dsimp only)
      (try k_fold)
      k_steps
      rename Fr _ _ _ _ => F1
      rename News _ _ _ _ => N1
      simp only [List.nil_append] at N1
      obtain ⟨wn, rfl⟩ : ∃ n : Nat, wd = n := ⟨wd.toNat, by (first | lia | omega)⟩
      refine' encoded_spec (Frag.In.keeps X0 F1.keep) (T0.keeps F1.keep) ?hdp ?hun hO (by (first | lia | omega)) rfl (by (first | lia | omega)) ?re4
      case hdp => decide
      case hun => (have := cLine_is; show 4 + 3 + 400 < _; (first | lia | omega))
      case re4 =>
      intro db td hd4 tkd4 hk4 hdb
      replace F1 := F1.keeps hk4
      replace N1 := News.grown N1 hk4
      clear hk4
      (try dsimp only)
      (try k_fold)
      k_steps
      rename Fr _ _ _ _ => F1
      rename News _ _ _ _ => N1
      refine' lines_spec (Frag.In.keeps X0 F1.keep) (T0.keeps F1.keep) ?hdp ?hun hO (by (first | lia | omega)) rfl (by (first | lia | omega)) ?re5
      case hdp => decide
      case hun => (have := cLine_is; show 4 + 3 + 300 < _; (first | lia | omega))
      case re5 =>
      intro lb tl hd5 tkd5 hk5 hlb
      replace F1 := F1.keeps hk5
      replace N1 := News.grown N1 hk5
      clear hk5
      have hq1 : (db.toList != lb.toList) = false := ints_same (by rw [hdb, hlb, encL_lines hoct])
      (try dsimp only)
      (try k_fold)
      k_steps
      rename Fr _ _ _ _ => F1
      rename News _ _ _ _ => N1
      have hel := encL_length os wn
      have hel0 := encL_length os 0
      have hnl := nine_length os
      have hno := nine_oct hoct
      refine' decoded_spec (Frag.In.keeps X0 F1.keep) (T0.keeps F1.keep) ?hdp ?hun hdb (by (first | lia | omega)) ?re6
      case hdp => decide
      case hun => (have := cLine_is; show 4 + 3 + 200 < _; (first | lia | omega))
      case re6 =>
      intro xb tx hd6 tkd6 hk6 hxb
      replace F1 := F1.keeps hk6
      replace N1 := News.grown N1 hk6
      clear hk6
      have hq2 : (xb.toList != ob.toList) = false := ints_same (by rw [hxb, decL_enc hoct, hO])
      (try dsimp only)
      (try k_fold)
      k_steps
      rename Fr _ _ _ _ => F1
      rename News _ _ _ _ => N1
      refine' encoded_spec (wd := 0) (Frag.In.keeps X0 F1.keep) (T0.keeps F1.keep) ?hdp ?hun hO (by (first | lia | omega)) rfl (by (first | lia | omega)) ?re7
      case hdp => decide
      case hun => (have := cLine_is; show 4 + 3 + 400 < _; (first | lia | omega))
      case re7 =>
      intro cb tc hd7 tkd7 hk7 hcb
      replace F1 := F1.keeps hk7
      replace N1 := News.grown N1 hk7
      clear hk7
      (try dsimp only)
      (try k_fold)
      k_steps
      rename Fr _ _ _ _ => F1
      rename News _ _ _ _ => N1
      refine' strict_decoded_spec (Frag.In.keeps X0 F1.keep) (T0.keeps F1.keep) (below_push K0 F1 rfl rfl) ?hdp ?hun hcb (by (first | lia | omega)) ?sr ?se
      case hdp => decide
      case hun => (have := cLine_is; show 4 + 3 + 600 < _; (first | lia | omega))
      case se =>
        intro p e h tk hp
        rw [sdR_enc hoct] at hp; cases hp
      case sr =>
      intro r c tc2 hd8 tkd8 hr hk8 hc8
      replace F1 := F1.keeps hk8
      replace N1 := News.grown N1 hk8
      clear hk8
      have hq3 : (c.toList != ob.toList) = false := ints_same (by rw [sdR_enc hoct] at hr; injection hr with hr; rw [hc8, ← hr, hO])
      (try dsimp only)
      (try k_fold)
      k_steps
      refine bytes_nine hO (by (first | lia | omega)) (fun nb tn kn hnb => ?_)
      k_steps
      refine' encoded76_spec (Frag.In.keeps X0 F1.keep) (T0.keeps F1.keep) ?hdp ?hun hnb (by (first | lia | omega)) ?re9
      case hdp => decide
      case hun => (have := cLine_is; show 4 + 3 + 400 < _; (first | lia | omega))
      case re9 =>
      intro eb te hd9 tkd9 hk9 heb
      replace F1 := F1.keeps hk9
      replace N1 := News.grown N1 hk9
      clear hk9
      (try dsimp only)
      (try k_fold)
      k_steps
  
      refine bytes_nine hO (by (first | lia | omega)) (fun nb2 tn2 kn2 hnb2 => ?_)
      k_steps
      have hsg := sgn_ints
      have hsgl := sgn_length
      have hmt := mt_ints
      have hmtl := mt_length
      refine' lines_spec (wd := 76) (Frag.In.keeps X0 F1.keep) (T0.keeps F1.keep) ?hdp ?hun hnb2 (by (first | lia | omega)) rfl (by (first | lia | omega)) ?re10
      case hdp => decide
      case hun => (have := cLine_is; show 4 + 3 + 300 < _; (first | lia | omega))
      case re10 =>
      intro gb tg hd10 tkd10 hk10 hgb
      replace F1 := F1.keeps hk10
      replace N1 := News.grown N1 hk10
      clear hk10
      have hq4 : (eb.toList != gb.toList) = false := ints_same (by rw [heb, hgb, encL_lines hno])
      (try dsimp only)
      (try k_fold)
      k_steps
      rename Fr _ _ _ _ => F1
      rename News _ _ _ _ => N1
      rename KBw.bInts (_ ++ _) = _ => hmn
      rename Obj.data _ = _ => dM1
      rename_i tmn kmn _ oM1
      have key : ∃ mb mn, KBw.bInts mb = mn ∧ mn.length = 72 ∧ oM1.data = .cell (some (.bytes mb tmn)) := ⟨_, _, hmn, by rw [List.length_append]; rfl, dM1⟩
      clear dM1 hmn hsg hmt dM hq1 hq2 hq3 hq4
      obtain ⟨mb, mn, hmb, hml, dM1⟩ := key
      have hrest2 : ∀ p ∈ [(C, LCg.lst ys), (s₁.heap.objs.size + 1 + 1, oM1), (s₁.heap.objs.size + 1, oP1)], p.1 ≠ P := apart_cons hCP' (apart_cons hMP (apart_cons hcP apart_nil))
      refine' draw_at (a := []) (b := [(C, LCg.lst ys), (s₁.heap.objs.size + 1 + 1, oM1), (s₁.heap.objs.size + 1, oP1)]) X0 T0 F1 N1 (.head _) apart_nil hrest2 hys (by (first | lia | omega)) (by decide) (by (first | lia | omega)) (by (first | lia | omega)) ?hdp ?hun ?dr11
      case hdp => decide
      case hun => (have := cLine_is; show 4 + 3 + 100 < _; (first | lia | omega))
      case dr11 =>
      clear F1 N1
      intro v7 t7 t8 n8 hd11 tkd11 v70 v71 F1 N1
      (try dsimp only)
      (try k_fold)
      k_steps
      rename Fr _ _ _ _ => F2
      rename News _ _ _ _ => N2
      rename IsRange _ _ _ _ _ _ _ _ => R2
      simp only [List.nil_append] at N2
      have hsq : 0 ≤ sp + 1 + 1 ∧ sp + 1 + 1 ≤ 30 := by (first | lia | omega)
      generalize sp + 1 + 1 = sq at *
      show wpAny _ _ (pyIter _) _ _ _
      refine src_range (n := v7.toNat) rfl F2 N2 R2 (small_of (by (first | lia | omega)) (by (first | lia | omega)) (by decide) (by decide)) (size_up (by decide) (by (first | lia | omega)) (by (first | lia | omega))) (by rw [sizeLine_eq]; (first | lia | omega)) (fun g19 => ?_)
      refine rest_inv (fun i us nw => ∃ t n rs, nw = (P, penObj C (sq + (i : Int)) (zs.sum.fmod 997) t tu n) :: [(C, LCg.lst ys), (s₁.heap.objs.size + 1 + 1, oM1), (s₁.heap.objs.size + 1, oP1)] ∧ IntsAre us rs ∧ rs.length = i ∧ ∀ k ∈ rs, Oct k) ⟨t8, n8, [], by rw [show sq + ((0 : Nat) : Int) = sq by (first | lia | omega)], .nil, rfl, nofun⟩ ?_ ?_
      · clear F2 N2 R2
        rintro i us nw v I oI C2 oC2 D m₂ hh2 tk3 E' hi ⟨t3, n3, rs, rfl, hus, hrl, hroct⟩ ⟨tv, rfl⟩ hC hx F₂ N₂ off ne
        (try k_fold)
        k_steps
        rename Fr _ _ _ _ => F1
        rename News _ _ _ _ => N1
        refine' draw_at (a := [(I, oI), (C2, oC2), (D, LCg.lst us)]) (b := [(C, LCg.lst ys), (s₁.heap.objs.size + 1 + 1, oM1), (s₁.heap.objs.size + 1, oP1)]) X0 T0 F1 N1 (.head _) (apart_cons (Ne.symm off.1.1) (apart_cons (Ne.symm off.1.2.1) (apart_cons (Ne.symm off.1.2.2) apart_nil))) hrest2 hys (by (first | lia | omega)) (by decide) (by (first | lia | omega)) (by (first | lia | omega)) ?hdp ?hun ?dr12
        case hdp => decide
        case hun => (have := cLine_is; show 4 + 3 + 100 < _; (first | lia | omega))
        case dr12 =>
        clear F1 N1
        intro v t4 t5 n5 hd12 tkd12 v0 v1 F1 N1
        (try dsimp only)
        (try k_fold)
        k_steps
        rename Fr _ _ _ _ => Fy
        rename News _ _ _ _ => Ny
        rename 0 ≤ List.getD _ _ _ => hg0
        rename List.getD _ _ _ < 256 => hg1
        exact LCg.CompEnd.intro Fy Ny ((P, penObj C (sq + (i : Int) + 1) (zs.sum.fmod 997) t5 tu n5) :: [(C, LCg.lst ys), (s₁.heap.objs.size + 1 + 1, oM1), (s₁.heap.objs.size + 1, oP1)]) (fun _ h => h) off trivial ⟨t5, n5, rs ++ [mn.getD v.toNat 0], by rw [show (sq + ((i + 1 : Nat) : Int)) = sq + (i : Int) + 1 by (first | lia | omega)], IntsAre.append hus (.cons _ _ .nil), by rw [List.length_append, hrl]; rfl, fun k hk => by
          rcases List.mem_append.mp hk with hk | hk
          · exact hroct k hk
          · rw [List.mem_singleton.mp hk]
            exact ⟨hg0, hg1⟩⟩
      · clear F2 N2 R2
        rintro us nw ⟨t3, n3, rs, rfl, hus, hrl, hroct⟩
        intro D hh2 tk3 F₂ N₂ off
        (try dsimp only)
        (try k_fold)
        k_steps
        rename Fr _ _ _ _ => F1
        rename News _ _ _ _ => N1
        rename KBa.In _ => hIn
        have hR := KBa.ints_make hIn
        rename 0 ≤ List.sum _ ∧ _ => hsum
        clear hsum hIn off hus
        generalize byteArr rs = rb at *
        replace N1 := fun p hp => N1 p (.tail _ hp)
        have hrl14 : rs.length ≤ 14 := by (first | lia | omega)
        refine' decoded_spec (Frag.In.keeps X0 F1.keep) (T0.keeps F1.keep) ?hdp ?hun hR (by (first | lia | omega)) ?re13
        case hdp => decide
        case hun => (have := cLine_is; show 4 + 3 + 200 < _; (first | lia | omega))
        case re13 =>
        intro yb ty hd13 tkd13 hk13 hyb
        replace F1 := F1.keeps hk13
        replace N1 := News.grown N1 hk13
        clear hk13
        (try dsimp only)
        (try k_fold)
        k_steps
        rename Fr _ _ _ _ => F1
        rename News _ _ _ _ => N1
        refine' lax_spec (Frag.In.keeps X0 F1.keep) (T0.keeps F1.keep) ?hdp ?hun hR (by (first | lia | omega)) ?re14
        case hdp => decide
        case hun => (have := cLine_is; show 4 + 3 + 300 < _; (first | lia | omega))
        case re14 =>
        intro zb tz hd14 tkd14 hk14 hzb
        replace F1 := F1.keeps hk14
        replace N1 := News.grown N1 hk14
        clear hk14
        have hq5 : (yb.toList != zb.toList) = false := ints_same (by rw [hyb, hzb, decL_lax])
        (try dsimp only)
        (try k_fold)
        k_steps
        rename Fr _ _ _ _ => F1
        rename News _ _ _ _ => N1
        refine' heard_at X0 T0 F1 N1 (below_push K0 F1 rfl rfl) rfl ?hdp ?hun hR (by (first | lia | omega)) ?hr15 ?he15
        case hdp => decide
        case hun => (have := cLine_is; show 4 + 3 + 700 < _; (first | lia | omega))
        case hr15 =>
          clear F1 N1
          intro b15 tb15 h15 tkh15 F1 N1 hh15
          (try dsimp only)
          (try k_fold)
          k_steps
          refine' strict_spec (Frag.In.keeps X0 F1.keep) (T0.keeps F1.keep) ?hdp ?hun hR (by (first | lia | omega)) ?sr ?se
          case hdp => decide
          case hun => (have := cLine_is; show 4 + 3 + 400 < _; (first | lia | omega))
          case se =>
            intro c15 tc15 he15 tke15 hk15 hs15
            rw [hh15] at hs15; cases hs15
          case sr =>
          intro c15 tc15 he15 tke15 hk15 hs15
          obtain ⟨r15, hs15, hr15⟩ := hs15
          replace F1 := F1.keeps hk15
          replace N1 := News.grown N1 hk15
          clear hk15
          have hq15 : (b15.toList != c15.toList) = false := ints_same (by rw [hh15] at hs15; injection hs15 with hs15; rw [hr15, ← hs15])
          (try dsimp only)
          (try k_fold)
          k_steps
          rename Fr _ _ _ _ => F1
          rename News _ _ _ _ => N1
          have hsr : 0 ≤ sq + (v7.toNat : Int) ∧ sq + (v7.toNat : Int) ≤ 60 := by (first | lia | omega)
          generalize sq + (v7.toNat : Int) = sr at *
          refine' encoded_spec (wd := 0) (Frag.In.keeps X0 F1.keep) (T0.keeps F1.keep) ?hdp ?hun hO (by (first | lia | omega)) rfl (by (first | lia | omega)) ?re16
          case hdp => decide
          case hun => (have := cLine_is; show 4 + 3 + 400 < _; (first | lia | omega))
          case re16 =>
          intro kb tk9 hd16 tkd16 hk16 hkb
          replace F1 := F1.keeps hk16
          replace N1 := News.grown N1 hk16
          clear hk16
          have hkz : (kb.size : Int) = ((encL os 0).length : Nat) := by rw [← KBw.ints_length, hkb]
          (try dsimp only)
          (try k_fold)
          k_steps
          rename Fr _ _ _ _ => F1
          rename News _ _ _ _ => N1
          refine' draw_at (a := []) (b := [(C, LCg.lst ys), (s₁.heap.objs.size + 1 + 1, oM1), (s₁.heap.objs.size + 1, oP1)]) X0 T0 F1 N1 (.head _) apart_nil hrest2 hys (by (first | lia | omega)) (by (first | lia | omega)) hsr.1 (by (first | lia | omega)) ?hdp ?hun ?dr17
          case hdp => decide
          case hun => (have := cLine_is; show 4 + 3 + 100 < _; (first | lia | omega))
          case dr17 =>
          clear F1 N1
          intro av t9 t10 n10 hd17 tkd17 av0 av1 F1 N1
          have htl : ((encL os 0).take av.toNat).length ≤ 120 := by (rw [List.length_take]; (first | lia | omega))
          (try dsimp only)
          (try k_fold)
          k_steps
          rename Fr _ _ _ _ => F1
          rename News _ _ _ _ => N1
          rename_i l4 _ l1
          have hl4 : l4 ≠ P := Nat.ne_of_gt (l1 _ (.head _))
          clear l1
          simp only [List.nil_append] at N1
          refine' draw_at (a := [(l4, _)]) (b := [(C, LCg.lst ys), (s₁.heap.objs.size + 1 + 1, oM1), (s₁.heap.objs.size + 1, oP1)]) X0 T0 F1 N1 (.head _) (apart_cons hl4 apart_nil) hrest2 hys (by (first | lia | omega)) (by decide) (by (first | lia | omega)) (by (first | lia | omega)) ?hdp ?hun ?dr18
          case hdp => decide
          case hun => (have := cLine_is; show 4 + 3 + 100 < _; (first | lia | omega))
          case dr18 =>
          clear F1 N1
          intro iv t11 t12 n12 hd18 tkd18 iv0 iv1 F1 N1
          refine item_small (News.isList N1 (.head _)) iv0 iv1 (Nat.le_of_ble_eq_true rfl) (by intro v hv; simp at hv; rcases hv with rfl | rfl | rfl | rfl <;> exact ⟨_, _, rfl, by decide⟩) (fun b4 tb4 l4s hb4 hl4s => ?_) (by with_unfolding_all rfl)
          (try dsimp only)
          (try k_fold)
          k_steps
          rename Fr _ _ _ _ => F1
          rename News _ _ _ _ => N1
          rename KBw.bInts (_ ++ _) = _ => hx1
          obtain ⟨T1, hx1, hT1⟩ := some_len 130 hx1 (by rw [List.length_append]; (first | lia | omega))
          simp only [List.cons_append, List.nil_append] at N1
          refine' draw_at (a := [(l4, _)]) (b := [(C, LCg.lst ys), (s₁.heap.objs.size + 1 + 1, oM1), (s₁.heap.objs.size + 1, oP1)]) X0 T0 F1 N1 (.head _) (apart_cons hl4 apart_nil) hrest2 hys (by (first | lia | omega)) (by decide) (by (first | lia | omega)) (by (first | lia | omega)) ?hdp ?hun ?dr19
          case hdp => decide
          case hun => (have := cLine_is; show 4 + 3 + 100 < _; (first | lia | omega))
          case dr19 =>
          clear F1 N1
          intro uv t13 t14 n14 hd19 tkd19 uv0 uv1 F1 N1
          have hdl : ((encL os 0).drop (av + uv).toNat).length ≤ 120 := by (rw [List.length_drop]; (first | lia | omega))
          (try dsimp only)
          (try k_fold)
          k_steps
          rename Fr _ _ _ _ => F1
          rename News _ _ _ _ => N1
          rename KBw.bInts (_ ++ _) = _ => hx2
          obtain ⟨T2, hx2, hT2⟩ := some_len 300 hx2 (by rw [List.length_append]; (first | lia | omega))
          refine' heard_at X0 T0 F1 N1 (below_push K0 F1 rfl rfl) rfl ?hdp ?hun hx2 (by (first | lia | omega)) ?hr20 ?he20
          case hdp => decide
          case hun => (have := cLine_is; show 4 + 3 + 700 < _; (first | lia | omega))
          case hr20 =>
            clear F1 N1
            intro b20 tb20 h20 tkh20 F1 N1 hh20
            (try dsimp only)
            (try k_fold)
            k_steps
            refine' strict_spec (Frag.In.keeps X0 F1.keep) (T0.keeps F1.keep) ?hdp ?hun hx2 (by (first | lia | omega)) ?sr ?se
            case hdp => decide
            case hun => (have := cLine_is; show 4 + 3 + 400 < _; (first | lia | omega))
            case se =>
              intro c20 tc20 he20 tke20 hk20 hs20
              rw [hh20] at hs20; cases hs20
            case sr =>
            intro c20 tc20 he20 tke20 hk20 hs20
            obtain ⟨r20, hs20, hr20⟩ := hs20
            replace F1 := F1.keeps hk20
            replace N1 := News.grown N1 hk20
            clear hk20
            have hq20 : (b20.toList == c20.toList) = true := ints_eq (by rw [hh20] at hs20; injection hs20 with hs20; rw [hr20, ← hs20])
            (try dsimp only)
            (try k_fold)
            k_steps
            rename Fr _ _ _ _ => F1
            rename News _ _ _ _ => N1
            refine' decoded_spec (Frag.In.keeps X0 F1.keep) (T0.keeps F1.keep) ?hdp ?hun hx2 (by (first | lia | omega)) ?re21
            case hdp => decide
            case hun => (have := cLine_is; show 4 + 3 + 200 < _; (first | lia | omega))
            case re21 =>
            intro ub tub hd21 tkd21 hk21 hub
            replace F1 := F1.keeps hk21
            replace N1 := News.grown N1 hk21
            clear hk21
            (try dsimp only)
            (try k_fold)
            k_steps
            rename Fr _ _ _ _ => F1
            rename News _ _ _ _ => N1
            refine' lax_spec (Frag.In.keeps X0 F1.keep) (T0.keeps F1.keep) ?hdp ?hun hx2 (by (first | lia | omega)) ?re22
            case hdp => decide
            case hun => (have := cLine_is; show 4 + 3 + 300 < _; (first | lia | omega))
            case re22 =>
            intro wb twb hd22 tkd22 hk22 hwb
            replace F1 := F1.keeps hk22
            replace N1 := News.grown N1 hk22
            clear hk22
            have hq22 : (ub.toList == wb.toList) = true := ints_eq (by rw [hub, hwb, decL_lax])
            (try dsimp only)
            (try k_fold)
            k_steps
            all_goals trace_state
          case he20 =>
            clear F1 N1
            intro p20 tb20 h20 tkh20 F1 N1 hh20
            (try dsimp only)
            (try k_fold)
            k_steps
            refine' strict_spec (Frag.In.keeps X0 F1.keep) (T0.keeps F1.keep) ?hdp ?hun hx2 (by (first | lia | omega)) ?sr ?se
            case hdp => decide
            case hun => (have := cLine_is; show 4 + 3 + 400 < _; (first | lia | omega))
            case sr =>
              intro c20 tc20 he20 tke20 hk20 hs20
              obtain ⟨r20, hs20, hr20⟩ := hs20
              rw [hh20] at hs20; cases hs20
            case se =>
            intro c20 tc20 he20 tke20 hk20 hs20
            replace F1 := F1.keeps hk20
            replace N1 := News.grown N1 hk20
            clear hk20
            have hq20 : p20 = c20 := by rw [hh20] at hs20; injection hs20
            subst hq20
            (try dsimp only)
            (try k_fold)
            k_steps
            rename Fr _ _ _ _ => F1
            rename News _ _ _ _ => N1
            refine' decoded_spec (Frag.In.keeps X0 F1.keep) (T0.keeps F1.keep) ?hdp ?hun hx2 (by (first | lia | omega)) ?re21
            case hdp => decide
            case hun => (have := cLine_is; show 4 + 3 + 200 < _; (first | lia | omega))
            case re21 =>
            intro ub tub hd21 tkd21 hk21 hub
            replace F1 := F1.keeps hk21
            replace N1 := News.grown N1 hk21
            clear hk21
            (try dsimp only)
            (try k_fold)
            k_steps
            rename Fr _ _ _ _ => F1
            rename News _ _ _ _ => N1
            refine' lax_spec (Frag.In.keeps X0 F1.keep) (T0.keeps F1.keep) ?hdp ?hun hx2 (by (first | lia | omega)) ?re22
            case hdp => decide
            case hun => (have := cLine_is; show 4 + 3 + 300 < _; (first | lia | omega))
            case re22 =>
            intro wb twb hd22 tkd22 hk22 hwb
            replace F1 := F1.keeps hk22
            replace N1 := News.grown N1 hk22
            clear hk22
            have hq22 : (ub.toList == wb.toList) = true := ints_eq (by rw [hub, hwb, decL_lax])
            (try dsimp only)
            (try k_fold)
            k_steps
            all_goals trace_state
        case he15 =>
          clear F1 N1
          intro p15 tb15 h15 tkh15 F1 N1 hh15
          (try dsimp only)
          (try k_fold)
          k_steps
          refine' strict_spec (Frag.In.keeps X0 F1.keep) (T0.keeps F1.keep) ?hdp ?hun hR (by (first | lia | omega)) ?sr ?se
          case hdp => decide
          case hun => (have := cLine_is; show 4 + 3 + 400 < _; (first | lia | omega))
          case sr =>
            intro c15 tc15 he15 tke15 hk15 hs15
            obtain ⟨r15, hs15, hr15⟩ := hs15
            rw [hh15] at hs15; cases hs15
          case se =>
          intro c15 tc15 he15 tke15 hk15 hs15
          replace F1 := F1.keeps hk15
          replace N1 := News.grown N1 hk15
          clear hk15
          have hq15 : p15 = c15 := by rw [hh15] at hs15; injection hs15
          subst hq15
          (try dsimp only)
          (try k_fold)
          k_steps
          rename Fr _ _ _ _ => F1
          rename News _ _ _ _ => N1
          have hsr : 0 ≤ sq + (v7.toNat : Int) ∧ sq + (v7.toNat : Int) ≤ 60 := by (first | lia | omega)
          generalize sq + (v7.toNat : Int) = sr at *
          refine' encoded_spec (wd := 0) (Frag.In.keeps X0 F1.keep) (T0.keeps F1.keep) ?hdp ?hun hO (by (first | lia | omega)) rfl (by (first | lia | omega)) ?re16
          case hdp => decide
          case hun => (have := cLine_is; show 4 + 3 + 400 < _; (first | lia | omega))
          case re16 =>
          intro kb tk9 hd16 tkd16 hk16 hkb
          replace F1 := F1.keeps hk16
          replace N1 := News.grown N1 hk16
          clear hk16
          have hkz : (kb.size : Int) = ((encL os 0).length : Nat) := by rw [← KBw.ints_length, hkb]
          (try dsimp only)
          (try k_fold)
          k_steps
          rename Fr _ _ _ _ => F1
          rename News _ _ _ _ => N1
          refine' draw_at (a := []) (b := [(C, LCg.lst ys), (s₁.heap.objs.size + 1 + 1, oM1), (s₁.heap.objs.size + 1, oP1)]) X0 T0 F1 N1 (.head _) apart_nil hrest2 hys (by (first | lia | omega)) (by (first | lia | omega)) hsr.1 (by (first | lia | omega)) ?hdp ?hun ?dr17
          case hdp => decide
          case hun => (have := cLine_is; show 4 + 3 + 100 < _; (first | lia | omega))
          case dr17 =>
          clear F1 N1
          intro av t9 t10 n10 hd17 tkd17 av0 av1 F1 N1
          have htl : ((encL os 0).take av.toNat).length ≤ 120 := by (rw [List.length_take]; (first | lia | omega))
          (try dsimp only)
          (try k_fold)
          k_steps
          rename Fr _ _ _ _ => F1
          rename News _ _ _ _ => N1
          rename_i l4 _ l1
          have hl4 : l4 ≠ P := Nat.ne_of_gt (l1 _ (.head _))
          clear l1
          simp only [List.nil_append] at N1
          refine' draw_at (a := [(l4, _)]) (b := [(C, LCg.lst ys), (s₁.heap.objs.size + 1 + 1, oM1), (s₁.heap.objs.size + 1, oP1)]) X0 T0 F1 N1 (.head _) (apart_cons hl4 apart_nil) hrest2 hys (by (first | lia | omega)) (by decide) (by (first | lia | omega)) (by (first | lia | omega)) ?hdp ?hun ?dr18
          case hdp => decide
          case hun => (have := cLine_is; show 4 + 3 + 100 < _; (first | lia | omega))
          case dr18 =>
          clear F1 N1
          intro iv t11 t12 n12 hd18 tkd18 iv0 iv1 F1 N1
          refine item_small (News.isList N1 (.head _)) iv0 iv1 (Nat.le_of_ble_eq_true rfl) (by intro v hv; simp at hv; rcases hv with rfl | rfl | rfl | rfl <;> exact ⟨_, _, rfl, by decide⟩) (fun b4 tb4 l4s hb4 hl4s => ?_) (by with_unfolding_all rfl)
          (try dsimp only)
          (try k_fold)
          k_steps
          rename Fr _ _ _ _ => F1
          rename News _ _ _ _ => N1
          rename KBw.bInts (_ ++ _) = _ => hx1
          obtain ⟨T1, hx1, hT1⟩ := some_len 130 hx1 (by rw [List.length_append]; (first | lia | omega))
          simp only [List.cons_append, List.nil_append] at N1
          refine' draw_at (a := [(l4, _)]) (b := [(C, LCg.lst ys), (s₁.heap.objs.size + 1 + 1, oM1), (s₁.heap.objs.size + 1, oP1)]) X0 T0 F1 N1 (.head _) (apart_cons hl4 apart_nil) hrest2 hys (by (first | lia | omega)) (by decide) (by (first | lia | omega)) (by (first | lia | omega)) ?hdp ?hun ?dr19
          case hdp => decide
          case hun => (have := cLine_is; show 4 + 3 + 100 < _; (first | lia | omega))
          case dr19 =>
          clear F1 N1
          intro uv t13 t14 n14 hd19 tkd19 uv0 uv1 F1 N1
          have hdl : ((encL os 0).drop (av + uv).toNat).length ≤ 120 := by (rw [List.length_drop]; (first | lia | omega))
          (try dsimp only)
          (try k_fold)
          k_steps
          rename Fr _ _ _ _ => F1
          rename News _ _ _ _ => N1
          rename KBw.bInts (_ ++ _) = _ => hx2
          obtain ⟨T2, hx2, hT2⟩ := some_len 300 hx2 (by rw [List.length_append]; (first | lia | omega))
          refine' heard_at X0 T0 F1 N1 (below_push K0 F1 rfl rfl) rfl ?hdp ?hun hx2 (by (first | lia | omega)) ?hr20 ?he20
          case hdp => decide
          case hun => (have := cLine_is; show 4 + 3 + 700 < _; (first | lia | omega))
          case hr20 =>
            clear F1 N1
            intro b20 tb20 h20 tkh20 F1 N1 hh20
            (try dsimp only)
            (try k_fold)
            k_steps
            refine' strict_spec (Frag.In.keeps X0 F1.keep) (T0.keeps F1.keep) ?hdp ?hun hx2 (by (first | lia | omega)) ?sr ?se
            case hdp => decide
            case hun => (have := cLine_is; show 4 + 3 + 400 < _; (first | lia | omega))
            case se =>
              intro c20 tc20 he20 tke20 hk20 hs20
              rw [hh20] at hs20; cases hs20
            case sr =>
            intro c20 tc20 he20 tke20 hk20 hs20
            obtain ⟨r20, hs20, hr20⟩ := hs20
            replace F1 := F1.keeps hk20
            replace N1 := News.grown N1 hk20
            clear hk20
            have hq20 : (b20.toList == c20.toList) = true := ints_eq (by rw [hh20] at hs20; injection hs20 with hs20; rw [hr20, ← hs20])
            (try dsimp only)
            (try k_fold)
            k_steps
            rename Fr _ _ _ _ => F1
            rename News _ _ _ _ => N1
            refine' decoded_spec (Frag.In.keeps X0 F1.keep) (T0.keeps F1.keep) ?hdp ?hun hx2 (by (first | lia | omega)) ?re21
            case hdp => decide
            case hun => (have := cLine_is; show 4 + 3 + 200 < _; (first | lia | omega))
            case re21 =>
            intro ub tub hd21 tkd21 hk21 hub
            replace F1 := F1.keeps hk21
            replace N1 := News.grown N1 hk21
            clear hk21
            (try dsimp only)
            (try k_fold)
            k_steps
            rename Fr _ _ _ _ => F1
            rename News _ _ _ _ => N1
            refine' lax_spec (Frag.In.keeps X0 F1.keep) (T0.keeps F1.keep) ?hdp ?hun hx2 (by (first | lia | omega)) ?re22
            case hdp => decide
            case hun => (have := cLine_is; show 4 + 3 + 300 < _; (first | lia | omega))
            case re22 =>
            intro wb twb hd22 tkd22 hk22 hwb
            replace F1 := F1.keeps hk22
            replace N1 := News.grown N1 hk22
            clear hk22
            have hq22 : (ub.toList == wb.toList) = true := ints_eq (by rw [hub, hwb, decL_lax])
            (try dsimp only)
            (try k_fold)
            k_steps
            all_goals trace_state
          case he20 =>
            clear F1 N1
            intro p20 tb20 h20 tkh20 F1 N1 hh20
            (try dsimp only)
            (try k_fold)
            k_steps
            refine' strict_spec (Frag.In.keeps X0 F1.keep) (T0.keeps F1.keep) ?hdp ?hun hx2 (by (first | lia | omega)) ?sr ?se
            case hdp => decide
            case hun => (have := cLine_is; show 4 + 3 + 400 < _; (first | lia | omega))
            case sr =>
              intro c20 tc20 he20 tke20 hk20 hs20
              obtain ⟨r20, hs20, hr20⟩ := hs20
              rw [hh20] at hs20; cases hs20
            case se =>
            intro c20 tc20 he20 tke20 hk20 hs20
            replace F1 := F1.keeps hk20
            replace N1 := News.grown N1 hk20
            clear hk20
            have hq20 : p20 = c20 := by rw [hh20] at hs20; injection hs20
            subst hq20
            (try dsimp only)
            (try k_fold)
            k_steps
            rename Fr _ _ _ _ => F1
            rename News _ _ _ _ => N1
            refine' decoded_spec (Frag.In.keeps X0 F1.keep) (T0.keeps F1.keep) ?hdp ?hun hx2 (by (first | lia | omega)) ?re21
            case hdp => decide
            case hun => (have := cLine_is; show 4 + 3 + 200 < _; (first | lia | omega))
            case re21 =>
            intro ub tub hd21 tkd21 hk21 hub
            replace F1 := F1.keeps hk21
            replace N1 := News.grown N1 hk21
            clear hk21
            (try dsimp only)
            (try k_fold)
            k_steps
            rename Fr _ _ _ _ => F1
            rename News _ _ _ _ => N1
            refine' lax_spec (Frag.In.keeps X0 F1.keep) (T0.keeps F1.keep) ?hdp ?hun hx2 (by (first | lia | omega)) ?re22
            case hdp => decide
            case hun => (have := cLine_is; show 4 + 3 + 300 < _; (first | lia | omega))
            case re22 =>
            intro wb twb hd22 tkd22 hk22 hwb
            replace F1 := F1.keeps hk22
            replace N1 := News.grown N1 hk22
            clear hk22
            have hq22 : (ub.toList == wb.toList) = true := ints_eq (by rw [hub, hwb, decL_lax])
            (try dsimp only)
            (try k_fold)
            k_steps
            all_goals trace_state
end
end Mine
end
theorem PySem.Challenge.cw_no0352_01_holds : PySem.Challenge.rw_no0352_01.Holds :=
  Mine.law_walk
