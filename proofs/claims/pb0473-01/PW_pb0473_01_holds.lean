import PyProof.Rows.All
import Wide.All
import OpenK.AllK
import Wide.FinOn
import PyProof.AttrMissHeap
import PyProof.ExcInit
import PyProof.InstStoreFacts
import OpenK.KEqL
import KE.KTryDeepN
import Lean
import PySem.Challenge.RW_pb0473_01
open PySem PySem.W PyProof.Rows
theorem Mine.two {A B : Prop} (f : A → B) (a : A) : B := f a
theorem Mine.pre.tw2504982779869524301 : True := True.intro
theorem Mine.pre.tw7686153911082905933 : True := True.intro
theorem Mine.pre.tw2451799914409745485 : True := True.intro
theorem Mine.pre.tw15251814650327888966 : True := True.intro
theorem Mine.pre.tw4207049851535343501 : True := True.intro
theorem Mine.pre.tw15726634371467788441 : True := True.intro
theorem Mine.pre.tw15861842697802643170 : True := True.intro
theorem Mine.pre.tw15323488141602197648 : True := True.intro
theorem Mine.pre.tw6804761575374681199 : True := True.intro
theorem Mine.pre.tw16483708793794732010 : True := True.intro
theorem Mine.pre.tw11441682375348906105 : True := True.intro
theorem Mine.pre.tw5281669908752499588 : True := True.intro
theorem Mine.pre.tw2495331874266312815 : True := True.intro
theorem Mine.pre.tw5731341611649145161 : True := True.intro
theorem Mine.pre.tw2289158724910369032 : True := True.intro
theorem Mine.pre.tw7214005224142826667 : True := True.intro
theorem Mine.pre.tw11399554475807630645 : True := True.intro
theorem Mine.pre.tw1744327949836340386 : True := True.intro
theorem Mine.pre.tw8050647239357041817 : True := True.intro
theorem Mine.pre.tw14417016902113386360 : True := True.intro
theorem Mine.pre.tw18233255370621244900 : True := True.intro
theorem Mine.pre.tw5131142871185379458 : True := True.intro
theorem Mine.pre.tw3788907338250133416 : True := True.intro
theorem Mine.pre.tw7226070088885751544 : True := True.intro
theorem Mine.pre.tw15216588824572760413 : True := True.intro
theorem Mine.pre.tw9269883197500966196 : True := True.intro
theorem Mine.pre.tw8301558168250483144 : True := True.intro
theorem Mine.pre.tw899124743068861042 : True := True.intro
theorem Mine.pre.tw1134953709659117593 : True := True.intro
theorem Mine.pre.tw6075171507606715781 : True := True.intro
theorem Mine.pre.tw3837823695312889917 : True := True.intro
theorem Mine.pre.tw5179339599432730232 : True := True.intro
theorem Mine.pre.tw1936523389482728524 : True := True.intro
theorem Mine.pre.tw6615631486209965517 : True := True.intro
theorem Mine.pre.tw2901822031365257273 : True := True.intro
theorem Mine.pre.tw5559670671026103597 : True := True.intro
theorem Mine.pre.tw7964398728579978746 : True := True.intro
theorem Mine.pre.tw10251759765297449335 : True := True.intro
theorem Mine.pre.tw1047120459358279703 : True := True.intro
theorem Mine.pre.tw8599402730897727845 : True := True.intro
theorem Mine.pre.tw30198436418510105 : True := True.intro
theorem Mine.pre.tw12600001335209363398 : True := True.intro
theorem Mine.pre.tw833301866567259626 : True := True.intro
theorem Mine.pre.tw12329847798736442354 : True := True.intro
theorem Mine.pre.tw14844808246951043556 : True := True.intro
theorem Mine.pre.tw6548938536104458511 : True := True.intro
theorem Mine.pre.tw8138631344701588614 : True := True.intro
theorem Mine.pre.tw124356168213406971 : True := True.intro
theorem Mine.pre.tw13543293706917346855 : True := True.intro
theorem Mine.pre.tw13434469736033276543 : True := True.intro
theorem Mine.pre.tw9048862158676561846 : True := True.intro
theorem Mine.pre.tw12058416156572183381 : True := True.intro
theorem Mine.pre.tw18334436613972320873 : True := True.intro
theorem Mine.pre.tw15552298541256452641 : True := True.intro
theorem Mine.pre.tw13763285996321713714 : True := True.intro
theorem Mine.pre.tw503137831086811483 : True := True.intro
theorem Mine.pre.tw8089614636097026548 : True := True.intro
theorem Mine.pre.tw7871981215989793078 : True := True.intro
theorem Mine.pre.tw8729141346455856134 : True := True.intro
theorem Mine.pre.tw364626883998391094 : True := True.intro
theorem Mine.pre.tw2749649739559614557 : True := True.intro
theorem Mine.pre.tw10584150303738031772 : True := True.intro
theorem Mine.pre.tw2942983534999405500 : True := True.intro
theorem Mine.pre.tw18236615629503518134 : True := True.intro
theorem Mine.pre.tw18320262050320308368 : True := True.intro
theorem Mine.pre.tw15233245896131659966 : True := True.intro
theorem Mine.pre.tw12723660185843396471 : True := True.intro
theorem Mine.pre.tw13839825171144383216 : True := True.intro
theorem Mine.pre.tw16248381776914940432 : True := True.intro
theorem Mine.pre.tw13985651320828149354 : True := True.intro
theorem Mine.pre.tw10842554608732231118 : True := True.intro
theorem Mine.pre.tw12354323748567133018 : True := True.intro
theorem Mine.pre.tw5105748471666761287 : True := True.intro
theorem Mine.pre.tw16268650808249262707 : True := True.intro
theorem Mine.pre.tw7559264692432220869 : True := True.intro
theorem Mine.pre.tw11701290255382674204 : True := True.intro
theorem Mine.pre.tw10204019117609856550 : True := True.intro
theorem Mine.pre.tw14114672765552503122 : True := True.intro
theorem Mine.pre.tw14799728766091433518 : True := True.intro
theorem Mine.pre.tw6907033906714537426 : True := True.intro
theorem Mine.pre.tw11460421374433590107 : True := True.intro
theorem Mine.pre.tw14864557699967703993 : True := True.intro
theorem Mine.pre.tw7071218303330986376 : True := True.intro
theorem Mine.pre.tw15625995988735854195 : True := True.intro
theorem Mine.pre.tw456585482795024358 : True := True.intro
theorem Mine.pre.tw2147516935554881526 : True := True.intro
theorem Mine.pre.tw6846343938879960342 : True := True.intro
theorem Mine.pre.tw1083846401382969032 : True := True.intro
theorem Mine.pre.tw2570518636118495876 : True := True.intro
theorem Mine.pre.tw343712557402399189 : True := True.intro
theorem Mine.pre.tw5915181514357443041 : True := True.intro
theorem Mine.pre.tw12660056702362669563 : True := True.intro
theorem Mine.pre.tw8866184789985215761 : True := True.intro
theorem Mine.pre.tw6585939558152295258 : True := True.intro
theorem Mine.pre.tw2698468114796561683 : True := True.intro
theorem Mine.pre.tw9925072483942813245 : True := True.intro
theorem Mine.pre.tw10556904025073309525 : True := True.intro
theorem Mine.pre.tw2228330938466492814 : True := True.intro
theorem Mine.pre.tw9163486881185348833 : True := True.intro
theorem Mine.pre.tw14504007709385416882 : True := True.intro
theorem Mine.pre.tw2165444987737528205 : True := True.intro
theorem Mine.pre.tw14070096154038975331 : True := True.intro
theorem Mine.pre.tw14552072348316998079 : True := True.intro
theorem Mine.pre.tw16258003978061591434 : True := True.intro
theorem Mine.pre.tw7383441886188000873 : True := True.intro
theorem Mine.pre.tw8960298273192479886 : True := True.intro
theorem Mine.pre.tw2834345416658533467 : True := True.intro
theorem Mine.pre.tw5265556644796053535 : True := True.intro
theorem Mine.pre.tw11661489554611879777 : True := True.intro
theorem Mine.pre.tw2968953917466835636 : True := True.intro
theorem Mine.pre.tw1385352955633275780 : True := True.intro
theorem Mine.pre.tw14569818649042903867 : True := True.intro
theorem Mine.pre.tw12951121588697251329 : True := True.intro
theorem Mine.pre.tw12285278899058290007 : True := True.intro
theorem Mine.pre.tw17951621792752003255 : True := True.intro
theorem Mine.pre.tw2346428165239446087 : True := True.intro
theorem Mine.pre.tw15911490980385452904 : True := True.intro
theorem Mine.pre.tw15042315596094944778 : True := True.intro
theorem Mine.pre.tw13676013984246606415 : True := True.intro
theorem Mine.pre.tw5141576093561083736 : True := True.intro
theorem Mine.pre.tw6327315350404671063 : True := True.intro
theorem Mine.pre.tw10125758760863536837 : True := True.intro
theorem Mine.pre.tw10476441753547339612 : True := True.intro
theorem Mine.pre.tw8923979195374158045 : True := True.intro
theorem Mine.pre.tw1050892389064381581 : True := True.intro
theorem Mine.pre.tw12464593357960378961 : True := True.intro
theorem Mine.pre.tw17373973320644317417 : True := True.intro
theorem Mine.pre.tw15368396088340907196 : True := True.intro
theorem Mine.pre.tw14898805574407847723 : True := True.intro
theorem Mine.pre.tw12104294763669239379 : True := True.intro
theorem Mine.pre.tw7907242505890983963 : True := True.intro
theorem Mine.pre.tw1264671815619765103 : True := True.intro
theorem Mine.pre.tw7227131079710277698 : True := True.intro
theorem Mine.pre.tw8113819696807641309 : True := True.intro
theorem Mine.pre.tw6598987100012212614 : True := True.intro
theorem Mine.pre.tw3144533544089427767 : True := True.intro
theorem Mine.pre.tw246745258367748990 : True := True.intro
theorem Mine.pre.tw6027166026388233240 : True := True.intro
theorem Mine.pre.tw1957200725488321114 : True := True.intro
theorem Mine.pre.tw17454632208202312435 : True := True.intro
theorem Mine.pre.tw15130635324320710267 : True := True.intro
theorem Mine.pre.tw11477163547676270809 : True := True.intro
theorem Mine.pre.tw16785959692537240356 : True := True.intro
theorem Mine.pre.tw6926492576228361084 : True := True.intro
theorem Mine.pre.tw4827731062090534920 : True := True.intro
theorem Mine.pre.tw9315323111575073388 : True := True.intro
theorem Mine.pre.tw698346005061455353 : True := True.intro
theorem Mine.pre.tw14795137245576490350 : True := True.intro
theorem Mine.pre.tw348168221346353151 : True := True.intro
theorem Mine.pre.tw13344253833810582256 : True := True.intro
theorem Mine.pre.tw9181419433902100537 : True := True.intro
theorem Mine.pre.tw2572576715449792082 : True := True.intro
theorem Mine.pre.tw4886116117891900527 : True := True.intro
theorem Mine.pre.tw16969236973895314278 : True := True.intro
theorem Mine.pre.tw4406938201441374700 : True := True.intro
theorem Mine.pre.tw13261852673686306774 : True := True.intro
theorem Mine.pre.tw17747810498848355795 : True := True.intro
theorem Mine.pre.tw720506306688461391 : True := True.intro
theorem Mine.pre.tw9293138973955870494 : True := True.intro
theorem Mine.pre.tw13305933163451760600 : True := True.intro
theorem Mine.pre.tw13155615532978356968 : True := True.intro
theorem Mine.pre.tw14531996196986799985 : True := True.intro
theorem Mine.pre.tw5916611623707148302 : True := True.intro
theorem Mine.pre.tw1562247505020969217 : True := True.intro
theorem Mine.pre.tw16830677165564596964 : True := True.intro
theorem Mine.pre.tw15715415247232172914 : True := True.intro
theorem Mine.pre.tw3056967183029245664 : True := True.intro
theorem Mine.pre.tw10534597610666090110 : True := True.intro
theorem Mine.pre.tw7218347486503554673 : True := True.intro
theorem Mine.pre.tw6984639926880643421 : True := True.intro
theorem Mine.pre.tw14967782790706212462 : True := True.intro
theorem Mine.pre.tw9966088280660723746 : True := True.intro
theorem Mine.pre.tw3583441638673829862 : True := True.intro
theorem Mine.pre.tw5147264164118438643 : True := True.intro
theorem Mine.pre.tw15123789955226152525 : True := True.intro
theorem Mine.pre.tw15217727220281956571 : True := True.intro
theorem Mine.pre.tw9453402838058930433 : True := True.intro
theorem Mine.pre.tw18177360088511047037 : True := True.intro
theorem Mine.pre.tw28029345213723098 : True := True.intro
theorem Mine.pre.tw16164899644161129635 : True := True.intro
theorem Mine.pre.tw6170148345488586343 : True := True.intro
theorem Mine.pre.tw10626571451207548414 : True := True.intro
theorem Mine.pre.tw3331293935044646375 : True := True.intro
theorem Mine.pre.tw2432886682013690578 : True := True.intro
theorem Mine.pre.tw17070133332105845622 : True := True.intro
theorem Mine.pre.tw2397827621436535734 : True := True.intro
theorem Mine.pre.tw16676685420422431488 : True := True.intro
theorem Mine.pre.tw13511625669976193069 : True := True.intro
set_option maxRecDepth 100000 in
set_option maxHeartbeats 8000000 in
set_option Elab.async true in
theorem Mine.pre (h : False) : PySem.Challenge.rw_pb0473_01.Holds := by
  refine' Mine.two ?m ?hc
  case' m => intro hx; clear hx
  case m =>
    w_on; o_law; k_head; (case hw => w_witness2)
  case hc => exact h.elim
set_option Elab.async false
set_option compiler.extract_closed false
set_option linter.unusedVariables false
set_option linter.all false
namespace Mine
section Base
open PySem PySem.W PyProof.Rows PySem.Spec PySem.Calls
structure At (K : Frag) (p : Program) (loose : List Str) (mean : ExcName → Option Value) (mg mb : Str → Option Value) (n : Nat) (A : Around) (h₀ : Heap) (L : Addr) : Prop where
  x : ∃ (dp un : Nat) (gd : Option (List Code)) (cn : Str) (cs : Scope) (a : Addr) (ccd : Value) (cl : List (Str × Addr)) (outer : List Env) (A₀ : Around) (base : Heap),
    A = ktrTop dp un gd cn cs L a ccd cl outer ∧ Below A₀ base outer h₀ ∧ K.In h₀ ∧ Top p loose mean mg mb h₀ ∧ cs.kind = .function ∧ dp + n < recursionLimit ∧ un + 8 * n + 100 < cLine
theorem At.mk' {K : Frag} {p : Program} {loose : List Str} {mean : ExcName → Option Value} {mg mb : Str → Option Value} {n dp un : Nat} {gd : Option (List Code)} {cn : Str} {cs : Scope} {a L : Addr} {ccd : Value} {cl : List (Str × Addr)} {outer : List Env} {A₀ : Around} {base h₀ : Heap}
  (B : Below A₀ base outer h₀) (X : K.In h₀) (T : Top p loose mean mg mb h₀) (hk : cs.kind = .function) (hd : dp + n < recursionLimit) (hu : un + 8 * n + 100 < cLine) : At K p loose mean mg mb n (ktrTop dp un gd cn cs L a ccd cl outer) h₀ L := ⟨dp, un, gd, cn, cs, a, ccd, cl, outer, A₀, base, rfl, B, X, T, hk, hd, hu⟩

section
variable {prog : Program} {w : World} {A A₀ : Around} {E : Value → Shared → Prop} {s : Shared} {K : Frag} {L : Addr} {h₀ base : Heap} {m mg mb : Str → Option Value} {act rest : List (Addr × Obj)} {p : Program} {loose : List Str} {mean : ExcName → Option Value}
theorem newsApp {h : Heap} {l l' : List (Addr × Obj)} (a : News h₀ L h l) (b : News h₀ L h l') : News h₀ L h (l ++ l') := fun p hp => (List.mem_append.mp hp).elim (a p) (b p)
theorem code_fx {env : Env} {outer : List Env} {R : Result → Shared → Prop} {name qual : Str} {params : Arguments} {body : List Stmt} {scope : Scope} {dV kV doc pm cdv ct oc : Value} {an od : Option Addr} {osl : Array (Option Value)} {f : Addr} {args : Args} {binds : List (Str × Value)}
    (B : Below A₀ base outer h₀) (F : Fr h₀ L s.heap m) (X₀ : K.In h₀) (N : News h₀ L s.heap act) (NR : News h₀ L s.heap rest) (hdis : ∀ q ∈ rest, q.1 ∉ act.map (·.1)) (T : Top p loose mean mg mb h₀) (hA : A.frames = some (env :: outer)) (hf : env.frame = some L) (hke : env.scope.kind = .function)
    (ho : K.lookup f = some ⟨oc, od, .func (fnOf name qual params body scope dV kV doc pm an cdv ct), osl⟩) (hcd : codeIn K cdv qual = true) (hroom : A.depth < recursionLimit)
    (hbind : BindsTo s (fnOf name qual params body scope dV kV doc pm an cdv ct) args binds) (hloc : ∀ y ∈ binds, scope.names.lookup y.1 = some .local)
    (h : ∀ g L' h₁, Fr h₀ L g m → Fr g L' h₁ (fun y => binds.reverse.lookup y) → News g L' h₁ act → Below A base (env :: outer) g → K.In g → Top p loose mean mg mb g → (∀ q ∈ rest, g.get? q.1 = some q.2) → (∀ b o, h₀.get? b = some o → g.get? b = some o) → (∀ q ∈ act, q.1 < L') →
      wpAny (model prog w) (A.deeper (envOf qual scope L' f cdv)) (execs body (envOf qual scope L' f cdv))
        (fun fl s' => LeaveK h₀ L m g (fun r s'' => News h₀ L s''.heap rest → R r s'') (match fl with | .ret v => v | _ => .none) s')
        (fun e s' => wpAny (model prog w) (A.deeper (envOf qual scope L' f cdv)) (leaving (envOf qual scope L' f cdv) e) (fun _ s'' => R (.error e) s'') (fun e' s'' => R (.error e') s'') s')
        { s with heap := h₁, toks := s.toks + binds.length })
    (hco : scope.isCoroutine = false) (hgen : scope.isGenerator = false) (hk : scope.kind = .function)
    (hcell : ∀ x ∈ scope.names, x.2 ≠ .cell) : codeAny (model prog w) A (.call (.ref f) args) R s := by
  obtain ⟨FG, BG, st, lv⟩ := groundX (R := R) B F N hA hf hke
  refine codeAny_call_def (fd := fnX name qual params body scope [] dV kV doc pm an cdv ct) (body := body) (binds := binds) hroom ((X₀.keeps F.keep) _ _ ho) rfl (T.nolimit.keeps F.keep) (codeRec_of (X₀.keeps F.keep) hcd) rfl hbind hcell hloc (fun h₁ hns hk₁ => ?_) hco hgen hk
  have hr : ∀ q ∈ rest, (hideAll s.heap (act.map (·.1))).get? q.1 = some q.2 := fun q hq => hideAll_get _ (NR q hq).1 (hdis q hq)
  refine wpAny_mono (h _ s.heap.objs.size h₁ FG ⟨hns, fun b o e => hk₁ b o (of_hideAll _ e), Nat.le_of_eq (hideAll_size _ _)⟩
    (fun q hq => ⟨hk₁ _ _ (N q hq).1, Nat.ne_of_lt (Heap.lt_size (N q hq).1), hideAll_none _ (List.mem_map_of_mem hq)⟩) BG (X₀.keeps st) (T.keeps st) hr st (fun q hq => Heap.lt_size (N q hq).1)) (fun fl s' hl => lv _ _ ?_) fun _ _ y => y
  obtain ⟨L', m', news', F', N', k⟩ := hl
  exact ⟨L', m', news', F', N', fun a b => k a b fun q hq => ⟨F'.keep _ _ (hr q hq), (NR q hq).2⟩⟩
theorem code_fr {env : Env} {outer : List Env} {R : Result → Shared → Prop} {name qual : Str} {params : Arguments} {body : List Stmt} {scope : Scope} {dV kV doc pm cdv ct oc : Value} {an od : Option Addr} {osl : Array (Option Value)} {f : Addr} {args : Args} {binds : List (Str × Value)}
    (B : Below A₀ base outer h₀) (F : Fr h₀ L s.heap m) (X₀ : K.In h₀) (N : News h₀ L s.heap act) (NR : News h₀ L s.heap rest) (hdis : ∀ q ∈ rest, q.1 ∉ act.map (·.1)) (T : Top p loose mean mg mb h₀) (hA : A.frames = some (env :: outer)) (hf : env.frame = some L) (hke : env.scope.kind = .function)
    (ho : K.lookup f = some ⟨oc, od, .func (fnOf name qual params body scope dV kV doc pm an cdv ct), osl⟩) (hcd : codeIn K cdv qual = true) (hroom : A.depth < recursionLimit)
    (hbind : BindsTo s (fnOf name qual params body scope dV kV doc pm an cdv ct) args binds) (hloc : ∀ y ∈ binds, scope.names.lookup y.1 = some .local)
    (h : ∀ g L' h₁, Fr g L' h₁ (fun y => binds.reverse.lookup y) → News g L' h₁ act → Below A base (env :: outer) g → K.In g → Top p loose mean mg mb g → (∀ q ∈ rest, g.get? q.1 = some q.2) → (∀ q ∈ act, q.1 < L') →
      wpAny (model prog w) (A.deeper (envOf qual scope L' f cdv)) (execs body (envOf qual scope L' f cdv))
        (fun fl s' => LeaveK h₀ L m g (fun r s'' => News h₀ L s''.heap rest → R r s'') (match fl with | .ret v => v | _ => .none) s')
        (fun e s' => wpAny (model prog w) (A.deeper (envOf qual scope L' f cdv)) (leaving (envOf qual scope L' f cdv) e) (fun _ s'' => R (.error e) s'') (fun e' s'' => R (.error e') s'') s')
        { s with heap := h₁, toks := s.toks + binds.length })
    (hco : scope.isCoroutine = false) (hgen : scope.isGenerator = false) (hk : scope.kind = .function)
    (hcell : ∀ x ∈ scope.names, x.2 ≠ .cell) : codeAny (model prog w) A (.call (.ref f) args) R s :=
  code_fx B F X₀ N NR hdis T hA hf hke ho hcd hroom hbind hloc (fun g L' h₁ _ f n y x t r _ l => h g L' h₁ f n y x t r l) hco hgen hk hcell
theorem code_frC {env : Env} {outer : List Env} {R : Result → Shared → Prop} {name qual : Str} {params : Arguments} {body : List Stmt} {scope : Scope} {dV kV doc pm cdv ct oc : Value} {an od : Option Addr} {osl : Array (Option Value)} {f : Addr} {args : Args} {binds : List (Str × Value)}
    (B : Below A₀ base outer h₀) (F : Fr h₀ L s.heap m) (X₀ : K.In h₀) (N : News h₀ L s.heap act) (NR : News h₀ L s.heap rest) (hdis : ∀ q ∈ rest, q.1 ∉ act.map (·.1)) (T : Top p loose mean mg mb h₀) (hA : A.frames = some (env :: outer)) (hf : env.frame = some L) (hke : env.scope.kind = .function)
    (ho : K.lookup f = some ⟨oc, od, .func (fnOf name qual params body scope dV kV doc pm an cdv ct), osl⟩) (hcd : codeIn K cdv qual = true) (hroom : A.depth < recursionLimit)
    (hbind : BindsTo s (fnOf name qual params body scope dV kV doc pm an cdv ct) args binds) (hkind : (binds.all fun y => scope.names.lookup y.1 == some .local || scope.names.lookup y.1 == some .cell) = true)
    (hnd : ((cellsFrom 0 scope.names []).map (·.1)).Nodup)
    (h : ∀ g L' h₁ tk cells, Fr g L' h₁ (bindL (envOfC qual scope L' f cdv).kindOf binds fun _ => none) → News g L' h₁ (cells ++ act) →
      CellsAre (bindC (envOfC qual scope L' f cdv).kindOf binds fun _ => none) (cellsFrom (L' + 1) scope.names []) cells → Below A base (env :: outer) g → K.In g → Top p loose mean mg mb g → (∀ q ∈ rest, g.get? q.1 = some q.2) → (∀ q ∈ act, q.1 < L') →
      wpAny (model prog w) (A.deeper (envOfC qual scope L' f cdv)) (execs body (envOfC qual scope L' f cdv))
        (fun fl s' => LeaveK h₀ L m g (fun r s'' => News h₀ L s''.heap rest → R r s'') (match fl with | .ret v => v | _ => .none) s')
        (fun e s' => wpAny (model prog w) (A.deeper (envOfC qual scope L' f cdv)) (leaving (envOfC qual scope L' f cdv) e) (fun _ s'' => R (.error e) s'') (fun e' s'' => R (.error e') s'') s')
        { s with heap := h₁, toks := tk })
    (hco : scope.isCoroutine = false) (hgen : scope.isGenerator = false) (hk : scope.kind = .function) : codeAny (model prog w) A (.call (.ref f) args) R s := by
  obtain ⟨FG, BG, st, lv⟩ := groundX (R := R) B F N hA hf hke
  refine codeAny_call_function (fd := fnX name qual params body scope [] dV kV doc pm an cdv ct) hroom ((X₀.keeps F.keep) _ _ ho) rfl hco hgen rfl (codeRec_of (X₀.keeps F.keep) hcd) (hbind _ _ _ _ ?_)
  refine wpAny_newFunctionEnv_cells hk (kindsX hkind _) fun env' he s' x => ?_
  subst he
  refine ⟨(T.nolimit.keeps F.keep).keeps x.toInCall.keep, codeAny_func ?_⟩
  obtain ⟨h₁, tk, rfl, _⟩ := x.done
  have hk₁ := x.toInCall.keep
  obtain ⟨cells, NC, Y⟩ := Cl.news (h₀ := s.heap) (Nat.le_refl _) fun n c hm => ⟨x.cell n c (lookup_of_mem_nodup (cellsFrom_names scope.names 0 (s.heap.objs.size + 1) [] [] rfl ▸ hnd) hm), x.above n c hm⟩
  have hr : ∀ q ∈ rest, (hideAll s.heap (act.map (·.1))).get? q.1 = some q.2 := fun q hq => hideAll_get _ (NR q hq).1 (hdis q hq)
  refine wpAny_mono (h _ s.heap.objs.size h₁ tk cells ⟨x.toInCall.ns, fun b o e => hk₁ b o (of_hideAll _ e), Nat.le_of_eq (hideAll_size _ _)⟩ (fun q hp => ?_) Y BG (X₀.keeps st) (T.keeps st) hr (fun q hq => Heap.lt_size (N q hq).1)) (fun fl s' hl => lv _ _ ?_) fun _ _ y => y
  · rcases List.mem_append.mp hp with hp | hp
    · refine ⟨(NC q hp).1, (NC q hp).2.1, ?_⟩
      cases e : (hideAll s.heap (act.map (·.1))).get? q.1 with
      | none => rfl
      | some o => have := of_hideAll _ e; rw [(NC q hp).2.2] at this; cases this
    · exact ⟨hk₁ _ _ (N q hp).1, Nat.ne_of_lt (Heap.lt_size (N q hp).1), hideAll_none _ (List.mem_map_of_mem hp)⟩
  · obtain ⟨L', m', news', F', N', k⟩ := hl
    exact ⟨L', m', news', F', N', fun a b => k a b fun q hq => ⟨F'.keep _ _ (hr q hq), (NR q hq).2⟩⟩
end
theorem cleanW {α : Type} {M : Model} {A : Around} {t : Sem α} {Q : α → Shared → Prop} {E : Value → Shared → Prop} {s : Shared} (h : wpAny M A t Q E s) : wpAny M A t Q E s := h

end Base
section Base2
open PySem PySem.W PyProof.Rows PySem.Spec PySem.Calls
def Live (h₀ : Heap) (news : List (Addr × Obj)) (a : Addr) (o : Obj) : Prop := h₀.get? a = some o ∨ (a, o) ∈ news
theorem Live.at {h₀ g : Heap} {news : List (Addr × Obj)} {a : Addr} {o : Obj} (l : Live h₀ news a o) (k : ∀ b o, h₀.get? b = some o → g.get? b = some o) (r : ∀ q ∈ news, g.get? q.1 = some q.2) : g.get? a = some o := l.elim (k a o) (r (a, o))
theorem InstAt.base {h₀ h : Heap} {L x C dx : Addr} {m : Str → Option Value} {od : Obj} {sl : Array (Option Value)} (F : Fr h₀ L h m) (h1 : h₀.get? x = some ⟨.ref C, some dx, .plain, sl⟩) (h2 : h₀.get? dx = some od) :
    InstAt h x ⟨.ref C, some dx, .plain, sl⟩ C (some od) := ⟨F.keep _ _ h1, rfl, rfl, F.keep _ _ h2⟩
section
variable {prog : Program} {w : World} {A A₀ : Around} {E : Value → Shared → Prop} {s : Shared} {K : Frag} {L : Addr} {h₀ base : Heap} {m mg mb : Str → Option Value} {act rest : List (Addr × Obj)} {p : Program} {loose : List Str} {mean : ExcName → Option Value}
theorem code_fs {env : Env} {outer : List Env} {R : Result → Shared → Prop} {name qual : Str} {params : Arguments} {body : List Stmt} {scope : Scope} {dV kV doc pm cdv ct oc : Value} {an od : Option Addr} {osl : Array (Option Value)} {f : Addr} {args : Args} {binds : List (Str × Value)}
    (B : Below A₀ base outer h₀) (F : Fr h₀ L s.heap m) (X₀ : K.In h₀) (N : News h₀ L s.heap act) (NR : News h₀ L s.heap rest) (hdis : ∀ q ∈ rest, q.1 ∉ act.map (·.1)) (T : Top p loose mean mg mb h₀) (hA : A.frames = some (env :: outer)) (hf : env.frame = some L) (hke : env.scope.kind = .function)
    (ho : K.lookup f = some ⟨oc, od, .func (fnOf name qual params body scope dV kV doc pm an cdv ct), osl⟩) (hcd : codeIn K cdv qual = true) (hroom : A.depth < recursionLimit)
    (hbind : BindsTo s (fnOf name qual params body scope dV kV doc pm an cdv ct) args binds) (hloc : ∀ y ∈ binds, scope.names.lookup y.1 = some .local)
    (h : ∀ g L' h₁, Fr g L' h₁ (fun y => binds.reverse.lookup y) → News g L' h₁ act → Below A base (env :: outer) g → K.In g → Top p loose mean mg mb g → (∀ q ∈ rest, g.get? q.1 = some q.2) → (∀ b o, h₀.get? b = some o → g.get? b = some o) → (∀ q ∈ act, q.1 < L') →
      wpAny (model prog w) (A.deeper (envOf qual scope L' f cdv)) (execs body (envOf qual scope L' f cdv))
        (fun fl s' => LeaveK h₀ L m g (fun r s'' => News h₀ L s''.heap rest → R r s'') (match fl with | .ret v => v | _ => .none) s')
        (fun e s' => wpAny (model prog w) (A.deeper (envOf qual scope L' f cdv)) (leaving (envOf qual scope L' f cdv) e) (fun _ s'' => R (.error e) s'') (fun e' s'' => R (.error e') s'') s')
        { s with heap := h₁, toks := s.toks + binds.length })
    (hco : scope.isCoroutine = false) (hgen : scope.isGenerator = false) (hk : scope.kind = .function)
    (hcell : ∀ x ∈ scope.names, x.2 ≠ .cell) : codeAny (model prog w) A (.call (.ref f) args) R s :=
  code_fx B F X₀ N NR hdis T hA hf hke ho hcd hroom hbind hloc (fun g L' h₁ _ => h g L' h₁) hco hgen hk hcell
end

end Base2
section MacH
open PySem PySem.W PyProof.Rows
theorem lt_tr {a b c : Nat} (h : b < c) (g : a < b) : a < c := Nat.lt_trans g h
theorem ne_gt {a b : Nat} (h : b < a) : @Ne Nat a b := Nat.ne_of_gt h
theorem ne_lt {a b : Nat} (h : a < b) : @Ne Nat a b := Nat.ne_of_lt h
theorem ofs_up {a b : Nat} (h : a < b) : a < b + 1 := Nat.lt_succ_of_lt h
theorem spot_up {a b c m : Int} {k : Int} (h : 0 ≤ a ∧ a ≤ m ∧ 0 ≤ c) (l : m ≤ k) : 0 ≤ a ∧ a ≤ k ∧ 0 ≤ c := ⟨h.1, Int.le_trans h.2.1 l, h.2.2⟩
open Lean
abbrev Tc := Lean.TSyntax `tactic
/-- tactics one after another, in parens -/
def sq (xs : List (MacroM Tc)) : MacroM Tc := do
  let ts ← xs.toArray.mapM id
  `(tactic| ($[$ts];*))
def idn (s : String) : MacroM Ident := return mkIdent (← Macro.addMacroScope (Name.mkSimple s))
def words (s : String) : List String := (s.splitOn " ").filter (· != "")
/-- `refine' lemma ?a ?b ?_`, the holes' names in one string -/
def rf (l : Name) (s : String) : MacroM Tc := do
  let as ← (words s).toArray.mapM fun (w : String) => do
    if w == "_" then `(term| ?_) else if w == "." then `(term| _) else do
      let i ← idn w
      `(term| ?$i:ident)
  `(tactic| refine' $(mkCIdent l) $as*)
def kd (xs : List (MacroM Tc)) : MacroM Tc := do
  let t ← sq xs
  `(tactic| k_dflt $t:tactic)
def wu (xs : List (MacroM Tc)) : MacroM Tc := do
  let t ← sq xs
  `(tactic| with_unfolding_all $t:tactic)
def cs (n : String) (t : MacroM Tc) : MacroM Tc := do
  let i ← idn n
  let t ← t
  `(tactic| (case $i:ident => $t:tactic))
/-- `intro a b c` -/
def ins (s : String) : MacroM Tc := do
  let is ← (words s).toArray.mapM fun w => do let i ← idn w; `(term| $i:ident)
  `(tactic| intro $is*)
/-- the goal is a call of the function at address `n`; the arguments: `r` a reference, `i` an int -/
def shw (n : Nat) (a : String) : MacroM Tc := do
  let l ← if a == "_" then `(term| _) else do
    let ts ← a.toList.toArray.mapM fun c => if c == 'r' then `(term| Value.ref _) else `(term| Value.int _ _)
    `(term| [$ts,*])
  `(tactic| (k_here; (with_reducible show wpAny _ _ (call (Value.ref $(quote n)) $l) _ _ _)))
/-- the usual ends, by a short name -/
def y (s : String) : MacroM Tc := match s with
  | "a" => `(tactic| assumption)
  | "k" => `(tactic| k_asm)
  | "r" => `(tactic| rfl)
  | "er" => `(tactic| exact rfl)
  | "d" => `(tactic| decide)
  | "u" => `(tactic| k_updF)
  | "il" => `(tactic| is_list)
  | "ki" => `(tactic| k_is)
  | "kr" => `(tactic| kernel_rfl)
  | "at" => do sq [rf ``At.mk' "q1 q2 q3 q4 q5 q6", cs "q1" `(tactic| k_asm), cs "q2" `(tactic| k_asm), cs "q3" `(tactic| k_asm), cs "q4" `(tactic| exact rfl), cs "q5" `(tactic| first | exact Nat.le_of_ble_eq_true rfl | ktr_room), cs "q6" `(tactic| first | exact Nat.le_of_ble_eq_true rfl | ktr_units)]
  | "ir" => `(tactic| exact .inr (by with_unfolding_all k_mem))
  | "ia" => `(tactic| exact .inl (by assumption))
  | "ao" => `(tactic| first | assumption | omega | decide)
  | "um" => `(tactic| with_unfolding_all k_mem)
  | "ur" => `(tactic| with_unfolding_all rfl)
  | "nn" => `(tactic| k_ne)
  | "dd" => `(tactic| exact ⟨by decide, by decide⟩)
  | "ne" => `(tactic| (refine neN ?_; (try dsimp only); with_reducible first | assumption | exact Ne.symm (by assumption) | (refine ne_gt ?_; (repeat (first | assumption | exact Nat.lt_succ_self _ | refine ofs_up ?_)); done) | (refine ne_lt ?_; (repeat (first | assumption | exact Nat.lt_succ_self _ | refine ofs_up ?_)); done) | ((repeat (rename ((_ ∧ _) ∧ _) => h; have := And.left h; have := And.right h; clear h)); (repeat (rename (@Ne Nat _ _ ∧ _) => h; (repeat (first | exact And.left h | exact Ne.symm (And.left h) | exact And.right h | exact Ne.symm (And.right h) | replace h := And.right h)); first | clear h | done)); done) | ((repeat (rename (@LT.lt Nat _ _ _ ∧ _) => h; (repeat (first | exact ne_gt (And.left h) | exact ne_lt (And.left h) | exact ne_gt (And.right h) | exact ne_lt (And.right h) | exact ne_gt (lt_tr (by assumption) (And.left h)) | exact ne_lt (lt_tr (by assumption) (And.left h)) | exact ne_gt (lt_tr (by assumption) (And.right h)) | exact ne_lt (lt_tr (by assumption) (And.right h)) | replace h := And.right h)); first | clear h | done)); done)))
  | "rc" => `(tactic| repeat constructor)
  | "h" => `(tactic| k_here)
  | "w" => `(tactic| k_whole)
  | "ds" => `(tactic| (try dsimp only))
  | "sw" => `(tactic| (try k_sweep))
  | "dN" => `(tactic| (try dsimp only at N'))
  | "l1" => `(tactic| (try k_lt l1))
  | "l2" => `(tactic| (try k_lt2 l2))
  | "rl" => `(tactic| rotate_left)
  | "ur2" => `(tactic| units_room)
  | "ku" => `(tactic| ktr_units)
  | "pu" => `(tactic| kmk_pure)
  | "po" => `(tactic| passes_own)
  | "ro" => `(tactic| k_room)
  | "nl" => `(tactic| exact News.nil)
  | _ => Macro.throwError s
/-- several cases: `hole:end` -/
def css (s : String) : MacroM Tc := sq <| (words s).map fun w => match w.splitOn ":" with
  | [n, k] => cs n (y k)
  | _ => Macro.throwError w
/-- several of the usual ends, one after another -/
def ys (s : String) : MacroM Tc := sq ((words s).map y)

end MacH
local macro_rules | `(tactic| k_ne) => y "ne"
section Pairs
open PySem PySem.W PyProof.Rows PySem.Spec PySem.Calls PyProof.Rows.LCg
structure FP where
  ad : Addr
  x : Str
  t : Tok
  b : Int
  u : Tok
def FP.At (h : Heap) (q : FP) : Prop := h.IsTuple q.ad #[.str q.x q.t, .int q.b q.u]
def StEl (news : List (Addr × Obj)) (f : Option Str) (y : Value) (news' : List (Addr × Obj)) : Prop := news' = news ∧ ∃ (x : Str) (t : Tok), y = .str x t ∧ f = some x
def StNo (news : List (Addr × Obj)) (f : Option Str) (news' : List (Addr × Obj)) : Prop := news' = news ∧ f = none
theorem strs_snoc {ys : List Value} {xs : List Str} {x : Str} {t : Tok} (h : StrsAre ys xs) : StrsAre (ys ++ [.str x t]) (xs ++ [x]) := PyProof.Rows.StrsAre.append' h (.cons _ _ .nil)
section
variable {prog : Program} {w : World} {A : Around} {E : Value → Shared → Prop} {s : Shared}
theorem letOwned_tup {elts : List Expr} {x1} {pos : Pos} {I l T : Addr} {i : Nat} {Q : Unit → Shared → Prop} (hit : s.heap.IsTupleIter I l i) (hQ : Q () s) :
    wpAny (model prog w) A (letOwnedTupleGo (.Tuple elts x1 pos) (.ref I) (.ref T)) Q E s := by
  obtain ⟨o, ho, hc, hd⟩ := hit
  unfold letOwnedTupleGo
  refine wpAny_bind (wpAny_load ho ?_)
  rw [hc, hd]
  dsimp only
  split
  · rename_i h
    exact absurd (Bool.and_eq_true_iff.mp h).1 (by decide)
  · exact wpAny_pure hQ
end
section
variable {prog : Program} {w : World} {A : Around} {E : Value → Shared → Prop} {s : Shared} {h₀ : Heap} {L : Addr} {m : Str → Option Value} {env : Env}
abbrev PTurn (prog : Program) (w : World) (A : Around) (h₀ : Heap) (L : Addr) (m : Str → Option Value) (env : Env) (c elt : Expr) (a b : Str) (scope : Scope) (cl : List (Str × Addr)) (s : Shared) (S : List (Addr × Obj) → Prop) (news : List (Addr × Obj)) (g : FP → Option Str) (q : FP) : Prop :=
  ∀ I oI C oC D m₂ ys h tk (E' : Value → Shared → Prop), NsObj oC m₂ → m₂ a = some (.str q.x q.t) → m₂ b = some (.int q.b q.u) → Fr h₀ L h m → News h₀ L h ((I, oI) :: (C, oC) :: (D, lst ys) :: news) → Off3 I C D news → ((@Ne Nat I C) ∧ (@Ne Nat I D) ∧ (@Ne Nat C D)) →
      wpAny (model prog w) A (isTrue c (compEnvC scope cl C env) (eval c (compEnvC scope cl C env))) (fun okb s₃ => if okb = true then
        wpAny (model prog w) A (eval elt (compEnvC scope cl C env)) (CompEnd h₀ L m { s with heap := h, toks := tk } I oI C oC D (lst ys) S (fun y news' => StEl news (g q) y news')) E' s₃
        else CompEnd h₀ L m { s with heap := h, toks := tk } I oI C oC D (lst ys) S (fun _ news' => StNo news (g q) news') .none s₃) E' { s with heap := h, toks := tk }

theorem pairs_block {elt iter c : Expr} {a b : Str} {pa pb tp : Pos} {kk : Nat} {scope : Scope} {cl : List (Str × Addr)} {pos : Pos} {s₂ : Shared} {I T : Addr} {ps : List FP} {g : FP → Option Str} {news : List (Addr × Obj)}
    {RR : Value → Addr → Result → Shared → Prop} (hh : A.handled = none) (hsz : ps.length ≤ sizeLine)
    (hT : h₀.IsTuple T (ps.map fun q => Value.ref q.ad).toArray) (hps : ∀ q ∈ ps, q.At h₀) (hit : s₂.heap.IsTupleIter I T 0)
    (hcell : ∀ y ∈ scope.names, y.2 ≠ .cell) (hkind : scope.kind = .function) (hxa : scope.names.lookup a = some .local) (hxb : scope.names.lookup b = some .local) (hab : ¬ a = b)
    (F : Fr h₀ L s₂.heap m) (N : News h₀ L s₂.heap news) (hIL : L ≠ I) (hI₀ : h₀.get? I = none) (off : ∀ p ∈ news, p.1 ≠ I)
    (turn : ∀ q ∈ ps, PTurn prog w A h₀ L m env c elt a b scope cl s₂ (fun _ => True) news g q)
    (hRR : ∀ D C h tk m' ys, Fr h₀ L h m → News h₀ L h ((D, lst ys) :: news) → Off1 D news → h.Ns C m' → h₀.get? C = none → h₀.get? D = none → C ≠ L → D ≠ L → C ≠ D → (∀ p ∈ news, p.1 ≠ C) → StrsAre ys (ps.filterMap g) → RR (.ref D) C (.ok .next) { s₂ with heap := h, toks := tk }) :
    wpAny (model prog w) A (newList []) (fun acc s₃ => wpAny (model prog w) A (newFunctionEnv scope env.globals cl [] env.qual none .none (some env)) (fun cenv s₄ =>
      codeAny (model prog w) A (.compStart (.ListComp elt [⟨.Tuple [.Name a pa, .Name b pb] kk tp, iter, [c], 0⟩] scope pos) 0 (.ref I) acc { cenv with scope := relabel scope env }) (RR acc cenv.locals) s₄) E s₃) E s₂ := by
  refine wpAny_newObj_type (wpAny_newFunctionEnv hcell (by intro y hy; simp at hy) (fun h₁ hns₁ hsb₁ => ?_) hkind)
  dsimp only at hns₁ hsb₁ ⊢
  generalize hH2 : s₂.heap.push { cls := .type "list", dict := none, data := .seq ([] : List Value).toArray } = H2 at hns₁ hsb₁ ⊢
  have hC : H2.objs.size = s₂.heap.objs.size + 1 := by rw [← hH2, Heap.size_push]
  have hDC : s₂.heap.objs.size ≠ H2.objs.size := by rw [hC]; exact Nat.ne_of_lt (Nat.lt_succ_self _)
  have below : ∀ b, b < s₂.heap.objs.size → b ≠ H2.objs.size ∧ b ≠ s₂.heap.objs.size := fun b hb => ⟨by rw [hC]; exact Nat.ne_of_lt (Nat.lt_succ_of_lt hb), Nat.ne_of_lt hb⟩
  have hIlt : I < s₂.heap.objs.size := by obtain ⟨o, ho, _⟩ := id hit; exact Heap.lt_size ho
  have old : ∀ b o, s₂.heap.get? b = some o → h₁.get? b = some o := fun b o e => hsb₁.extBut b o (below b (Heap.lt_size e)).1 (Heap.get?_push_of_some _ (hH2 ▸ Heap.get?_push_of_some _ e))
  have hacc : h₁.get? s₂.heap.objs.size = some (lst []) := hsb₁.extBut _ _ hDC (Heap.get?_push_of_some _ (hH2 ▸ Heap.get?_push_size _ rfl))
  have hit₁ : h₁.IsTupleIter I T 0 := hit.at fun o e => old _ _ e
  have fresh : ∀ a, s₂.heap.objs.size ≤ a → s₂.heap.get? a = none := fun a ha => by
    cases e : s₂.heap.get? a with
    | none => rfl
    | some o' => exact absurd (Heap.lt_size e) (Nat.not_lt.mpr ha)
  have fresh₀ : ∀ a, s₂.heap.objs.size ≤ a → h₀.get? a = none := fun a ha => by
    cases e : h₀.get? a with
    | none => rfl
    | some o' => have := F.keep a o' e; rw [fresh a ha] at this; cases this
  have hD₀ : h₀.get? s₂.heap.objs.size = none := fresh₀ _ (Nat.le_refl _)
  have hC₀ : h₀.get? H2.objs.size = none := fresh₀ _ (by rw [hC]; exact Nat.le_succ _)
  have hLlt : L < s₂.heap.objs.size := F.ns.lt
  have hDL : s₂.heap.objs.size ≠ L := Ne.symm (below L hLlt).2
  have hCL : H2.objs.size ≠ L := Ne.symm (below L hLlt).1
  have hCI : I ≠ H2.objs.size := (below I hIlt).1
  have hDI : I ≠ s₂.heap.objs.size := (below I hIlt).2
  have off3 : ∀ p ∈ news, p.1 ≠ I ∧ p.1 ≠ H2.objs.size ∧ p.1 ≠ s₂.heap.objs.size := fun p hp => ⟨off p hp, (below _ (Heap.lt_size (N p hp).1)).1, (below _ (Heap.lt_size (N p hp).1)).2⟩
  have hTI : T ≠ I := fun e => by obtain ⟨o, ho, _⟩ := hT; rw [e, hI₀] at ho; cases ho
  have W := Walks.tuple (prog := prog) (w := w) hh I T hTI (ps.map fun q => Value.ref q.ad).toArray
  have hlen : (ps.map fun q => Value.ref q.ad).toArray.size = ps.length := by simp
  rw [hlen] at W
  have loop : ∀ s₃ : Shared, s₃ = { s₂ with heap := h₁, toks := s₂.toks + ([] : List (Str × Value)).length } →
      codeAny (model prog w) A (.compLoop (.ListComp elt [⟨.Tuple [.Name a pa, .Name b pb] kk tp, iter, [c], 0⟩] scope pos) 0 (.ref I) (.ref s₂.heap.objs.size) (compEnvC scope cl H2.objs.size env))
        (RR (.ref s₂.heap.objs.size) H2.objs.size) s₃ := by
    rintro s₃ rfl
    refine kct_loop (fun k s' => ∃ h' tk i ys m', s' = { s₂ with heap := h', toks := tk } ∧ i ≤ ps.length ∧ k = ps.length + 1 - i ∧ ys.length ≤ i ∧ h'.IsTupleIter I T i ∧ Fr h₀ L h' m ∧ h'.Ns H2.objs.size m' ∧
        News h₀ L h' ((s₂.heap.objs.size, lst ys) :: news) ∧ StrsAre ys ((ps.take i).filterMap g)) ?_ (ps.length + 1)
      ⟨h₁, _, 0, [], _, rfl, Nat.zero_le _, rfl, Nat.le_refl _, hit₁, F.keeps old, hns₁, fun p hp => ?_, by simpa using StrsAre.nil⟩
    · rintro k s' ⟨h', tk, i, ys, m', rfl, hi, rfl, hyl, hit', F', hn', N', hys⟩
      have hT' : h'.IsTuple T (ps.map fun q => Value.ref q.ad).toArray := hT.at fun o e => F'.keep _ _ e
      by_cases hlt : i < ps.length
      · refine W.item i _ _ _ hlt ⟨hit', hT'⟩ fun v h₂ tk₂ hv hst₂ hk₂ => ?_
        have hq : ps[i] ∈ ps := List.getElem_mem hlt
        have hv' : v = .ref ps[i].ad := by simp [hlt] at hv; exact hv.symm
        subst hv'
        have F₂ : Fr h₀ L h₂ m := fr_but F' hk₂ hIL hI₀
        refine letOwned_tup hst₂.1 ?_
        have hP : h₂.IsTuple ps[i].ad #[.str ps[i].x ps[i].t, .int ps[i].b ps[i].u] := (hps _ hq).at fun o e => F₂.keep _ _ e
        refine kcp_assign (env := compEnvC scope cl H2.objs.size env) hh hP (lookup_relabel_local hxa) (lookup_relabel_local hxb) (by simp [compEnvC, relabel, hkind]) (hn'.at' fun o e => hk₂ _ o (by simpa using Ne.symm hCI) e) fun h₄ tk₄ hn₄ hs₄ => ?_
        have up : ∀ c o, c ≠ I → c ≠ H2.objs.size → h'.get? c = some o → h₄.get? c = some o := fun c o h1 h2 e => hs₄ c o h2 (hk₂ c o (by simpa using h1) e)
        have hI₄ : h₄.IsTupleIter I T (i + 1) := hst₂.1.at fun o e => hs₄ I o hCI e
        obtain ⟨oI, heI, hoI⟩ := id hI₄
        obtain ⟨oC, heC, hoC⟩ := ns_obj hn₄
        have F₄ : Fr h₀ L h₄ m := ⟨F'.ns.at' fun o e => up _ o hIL (Ne.symm hCL) e, fun c o e => up c o (fun q => by rw [q, hI₀] at e; cases e) (fun q => by rw [q, hC₀] at e; cases e) (F'.keep c o e), F'.above⟩
        have N₄ : News h₀ L h₄ ((I, oI) :: (H2.objs.size, oC) :: (s₂.heap.objs.size, lst ys) :: news) := fun q hq => by
          rcases List.mem_cons.mp hq with rfl | hq
          · exact ⟨heI, Ne.symm hIL, hI₀⟩
          rcases List.mem_cons.mp hq with rfl | hq
          · exact ⟨heC, hCL, hC₀⟩
          have z := N' q hq
          refine ⟨up _ _ ?_ ?_ z.1, z.2⟩
          · rcases List.mem_cons.mp hq with rfl | hq
            · exact Ne.symm hDI
            · exact (off3 q hq).1
          · rcases List.mem_cons.mp hq with rfl | hq
            · exact hDC
            · exact (off3 q hq).2.1
        have htk : (ps.take (i + 1)).filterMap g = (ps.take i).filterMap g ++ (g ps[i]).toList := by
          rw [List.take_add_one, List.getElem?_eq_getElem hlt, List.filterMap_append]
          cases hg : g ps[i] <;> simp [hg]
        have fin : ∀ (ys' : List Value) (h₅ : Heap) (tk₅ : Nat), ys'.length ≤ i + 1 → Fr h₀ L h₅ m → News h₀ L h₅ ((I, oI) :: (H2.objs.size, oC) :: (s₂.heap.objs.size, lst ys') :: news) → StrsAre ys' ((ps.take (i + 1)).filterMap g) →
            ∃ q', q' < ps.length + 1 - i ∧ (∃ h' tk i ys m', ({ s₂ with heap := h₅, toks := tk₅ } : Shared) = { s₂ with heap := h', toks := tk } ∧ i ≤ ps.length ∧ q' = ps.length + 1 - i ∧ ys.length ≤ i ∧ h'.IsTupleIter I T i ∧ Fr h₀ L h' m ∧ h'.Ns H2.objs.size m' ∧
              News h₀ L h' ((s₂.heap.objs.size, lst ys) :: news) ∧ StrsAre ys ((ps.take i).filterMap g)) := by
          intro ys' h₅ tk₅ hl F₅ N₅ R₅
          exact ⟨ps.length + 1 - (i + 1), by omega, h₅, tk₅, i + 1, ys', _, rfl, hlt, rfl, hl, ⟨oI, (N₅ (I, oI) List.mem_cons_self).1, hoI⟩, F₅, hoC.ns (N₅ (H2.objs.size, oC) (List.mem_cons_of_mem _ List.mem_cons_self)).1, fun q hq => N₅ q (List.mem_cons_of_mem _ (List.mem_cons_of_mem _ hq)), R₅⟩
        refine wpAny_mono (turn _ hq I oI H2.objs.size oC s₂.heap.objs.size _ ys h₄ _ _ hoC (by simp [hab]) (by simp) F₄ N₄ (Off3.of off3) ⟨hCI, hDI, Ne.symm hDC⟩) (fun okb s₅ h₅ => ?_) fun _ _ e => e
        cases okb with
        | false =>
          simp only [Bool.false_eq_true, if_false] at h₅ ⊢
          obtain ⟨h₅, tk₅, news₅, rfl, F₅, N₅, off₅, hS₅, rfl, R₅⟩ := h₅
          exact fin ys h₅ tk₅ (Nat.le_succ_of_le hyl) F₅ N₅ (by rw [htk, R₅]; simpa using hys)
        | true =>
          simp only [if_true] at h₅ ⊢
          refine wpAny_mono h₅ (fun y s₆ h₆ => ?_) fun _ _ e => e
          obtain ⟨h₅, tk₅, news₅, rfl, F₅, N₅, off₅, hS₅, rfl, x, t, rfl, R₅⟩ := h₆
          have zI := (N₅ (I, oI) List.mem_cons_self).1
          have zC := (N₅ (H2.objs.size, oC) (List.mem_cons_of_mem _ List.mem_cons_self)).1
          have zD := (N₅ (s₂.heap.objs.size, lst ys) (List.mem_cons_of_mem _ (List.mem_cons_of_mem _ List.mem_cons_self))).1
          refine append_at (hsz := by show ys.toArray.size ≤ sizeLine; rw [List.size_toArray]; exact Nat.le_trans hyl (Nat.le_trans hi hsz)) zD fun h₆ hs₆ hD₆ => ?_
          refine fin (ys ++ [.str x t]) h₆ _ (by rw [List.length_append, List.length_singleton]; exact Nat.succ_le_succ hyl) (F₅.change hs₆ hDL hD₀) (fun q hq => ?_) (by rw [htk, R₅]; exact strs_snoc hys)
          rcases List.mem_cons.mp hq with rfl | hq
          · exact ⟨hs₆.extBut I oI hDI zI, Ne.symm hIL, hI₀⟩
          rcases List.mem_cons.mp hq with rfl | hq
          · exact ⟨hs₆.extBut _ oC (Ne.symm hDC) zC, hCL, hC₀⟩
          rcases List.mem_cons.mp hq with rfl | hq
          · exact ⟨hD₆.trans (congrArg some (lst_snoc ys _)), hDL, hD₀⟩
          · have z := N₅ q (List.mem_cons_of_mem _ (List.mem_cons_of_mem _ (List.mem_cons_of_mem _ hq)))
            exact ⟨hs₆.extBut _ _ (off3 q hq).2.2 z.1, z.2⟩
      · have hin : i = ps.length := Nat.le_antisymm hi (Nat.not_lt.mp hlt)
        subst hin
        refine W.done _ _ _ ⟨hit', hT'⟩ fun h₂ tk₂ hk₂ => ?_
        exact hRR _ _ h₂ tk₂ _ ys (fr_but F' hk₂ hIL hI₀) (news_but N' hk₂ fun p hp => by
          rcases List.mem_cons.mp hp with rfl | hp
          · exact Ne.symm hDI
          · exact (off3 p hp).1) (Off3.one (Off3.of off3)) (hn'.at' fun o e => hk₂ _ o (by simpa using Ne.symm hCI) e) hC₀ hD₀ hCL hDL (Ne.symm hDC) (fun p hp => (off3 p hp).2.1) (by rw [List.take_length] at hys; exact hys)
    · rcases List.mem_cons.mp hp with rfl | hp
      · exact ⟨hacc, hDL, hD₀⟩
      · exact ⟨old _ _ (N p hp).1, (N p hp).2⟩
  exact codeAny_compStart_list (loop _ rfl) (wpAny_pyIter_tupleiter hit₁ (loop _ rfl))

theorem pairs_comp {elt iter c : Expr} {a b : Str} {pa pb tp : Pos} {kk : Nat} {scope : Scope} {cl : List (Str × Addr)} {pos : Pos} {T : Addr} {ps : List FP} {g : FP → Option Str} {news : List (Addr × Obj)} {Q : Value → Shared → Prop}
    (F : Fr h₀ L s.heap m) (N : News h₀ L s.heap news) (hh : A.handled = none) (hsz : ps.length ≤ sizeLine)
    (hT : h₀.IsTuple T (ps.map fun q => Value.ref q.ad).toArray) (hps : ∀ q ∈ ps, q.At h₀)
    (hclos : closureFor scope env = pure cl) (hcell : ∀ y ∈ scope.names, y.2 ≠ .cell) (hkind : scope.kind = .function)
    (hnames : ∀ y ∈ scope.names, y.2 = .local → scope.names.lookup y.1 = some .local) (hxa : scope.names.lookup a = some .local) (hxb : scope.names.lookup b = some .local) (hab : ¬ a = b)
    (hs : ∀ x, foldedSetIterable iter env x = pure x)
    (turn : ∀ h, ∀ q ∈ ps, PTurn prog w A h₀ L m env c elt a b scope cl { s with heap := h } (fun _ => True) news g q)
    (hi : ∀ {R : Value → Shared → Prop}, R (.ref T) s → wpAny (model prog w) A (eval iter env) R E s)
    (hQ : ∀ D h tk ys, Fr h₀ L h m → News h₀ L h ((D, lst ys) :: news) → Off1 D news → StrsAre ys (ps.filterMap g) → Q (.ref D) { s with heap := h, toks := tk }) :
    wpAny (model prog w) A (eval (.ListComp elt [⟨.Tuple [.Name a pa, .Name b pb] kk tp, iter, [c], 0⟩] scope pos) env) Q E s := by
  rw [eval_ListComp]
  refine wpAny_comprehension_free (use := none) rfl hs hclos hkind hnames (hi ?_)
  refine wpAny_pyIter_tuple (hT.at fun o e => F.keep _ _ e) ?_
  refine pairs_block hh hsz hT hps ⟨_, Heap.get?_push_size _ rfl, rfl, rfl⟩ hcell hkind hxa hxb hab (F.push _)
    (fun p hp => ⟨Heap.get?_push_of_some _ (N p hp).1, (N p hp).2⟩) (Nat.ne_of_lt F.ns.lt) (next_is_new F) (fun p hp => Nat.ne_of_lt (Heap.lt_size (N p hp).1)) (turn _) ?_
  intro D C h tk m' ys F' N' o1 hn hC₀ hD₀ hCL hDL hCD offC hys
  refine ⟨m', hn, fun h'' hs'' => hQ D h'' tk ys (F'.change hs'' hCL hC₀) (fun p hp => ?_) o1 hys⟩
  refine ⟨hs''.extBut _ _ ?_ (N' p hp).1, (N' p hp).2⟩
  rcases List.mem_cons.mp hp with rfl | hp
  · exact Ne.symm hCD
  · exact offC p hp
end

end Pairs
section Fw
open PySem PySem.W PyProof.Rows PySem.Spec PySem.Calls PyProof.Rows.LCg
def FL : List FP := [⟨135, "Invisible", 361, 1, 362⟩, ⟨136, "Hidden", 363, 2, 364⟩, ⟨137, "Print", 365, 4, 366⟩, ⟨138, "NoZoom", 367, 8, 368⟩, ⟨139, "NoRotate", 369, 16, 370⟩, ⟨140, "NoView", 371, 32, 372⟩, ⟨141, "ReadOnly", 373, 64, 374⟩, ⟨142, "Locked", 375, 128, 376⟩, ⟨143, "ToggleNoView", 377, 256, 378⟩, ⟨144, "LockedContents", 379, 512, 380⟩]
def fwd (n : Int) (q : FP) : Option Str := if Builtin.bitAnd n q.b ≠ 0 then some q.x else none
def wds (n : Int) : List Str := FL.filterMap (fwd n)
theorem flAt {K : Frag} {h : Heap} {ad : Addr} {x : Str} {t : Tok} {b : Int} {u : Tok} (X : K.In h) (e : K.lookup ad = some ⟨.type "tuple", none, .seq #[.str x t, .int b u] 0, #[]⟩) : FP.At h ⟨ad, x, t, b, u⟩ := ⟨_, X _ _ e, rfl, 0, rfl⟩
theorem fl_all {w : World} {h : Heap} (X : (pre.heap_1_39 w.params).In h) : ∀ q ∈ FL, q.At h :=
  List.forall_mem_cons.mpr ⟨flAt X (by kernel_rfl), List.forall_mem_cons.mpr ⟨flAt X (by kernel_rfl), List.forall_mem_cons.mpr ⟨flAt X (by kernel_rfl), List.forall_mem_cons.mpr ⟨flAt X (by kernel_rfl), List.forall_mem_cons.mpr ⟨flAt X (by kernel_rfl),
  List.forall_mem_cons.mpr ⟨flAt X (by kernel_rfl), List.forall_mem_cons.mpr ⟨flAt X (by kernel_rfl), List.forall_mem_cons.mpr ⟨flAt X (by kernel_rfl), List.forall_mem_cons.mpr ⟨flAt X (by kernel_rfl), List.forall_mem_cons.mpr ⟨flAt X (by kernel_rfl), fun _ h => nomatch h⟩⟩⟩⟩⟩⟩⟩⟩⟩⟩
theorem fl_tup {w : World} {h : Heap} (X : (pre.heap_1_39 w.params).In h) : h.IsTuple 145 (FL.map fun q => Value.ref q.ad).toArray := ⟨_, X 145 ⟨.type "tuple", none, .seq (FL.map fun q => Value.ref q.ad).toArray 0, #[]⟩ (by kernel_rfl), rfl, 0, rfl⟩

def lf_1 : Lean.MacroM Tc := `(tactic| (with_reducible show wpAny _ _ (eval (Expr.ListComp _ [⟨Expr.Tuple _ _ _, _, _, _⟩] _ _) _) _ _ _))
def lf_2 : Lean.MacroM Tc := `(tactic| (refine' pairs_comp (T := 145) (ps := FL) (g := fwd ?nn) ?kF ?kN ?kh ?ksz ?kT ?kps ?kc1 ?kc2 ?kc3 ?kc4 ?kc5 ?kc6 ?kc7 ?kc8 ?kt ?ki ?_))
def lf_3 : Lean.MacroM Tc := `(tactic| (exact fl_tup (by assumption)))
def lf_4 : Lean.MacroM Tc := `(tactic| (exact fl_all (by assumption)))
def lf_5 : Lean.MacroM Tc := `(tactic| (intro _; rfl))
local macro_rules | `(tactic| walk_at "eval ListComp") => sq [ys "h", lf_1, kd [lf_2, css "nn:a kF:k kN:k kh:r ksz:d", cs "kT" lf_3, cs "kps" lf_4, css "kc1:ur kc2:d kc3:r kc4:d kc5:r kc6:r kc7:d", cs "kc8" lf_5, ys "rl"]]
set_option maxRecDepth 100000 in
set_option maxHeartbeats 8000000 in
theorem fw_c {w : World} {p : Program} {loose : List Str} {mean : ExcName → Option Value} {mg mb : Str → Option Value} {A : Around} {h₀ : Heap} {L : Addr} {m : Str → Option Value} {s : Shared} {Q E : Value → Shared → Prop}
  (n : Int) (tn : Tok) {news : List (Addr × Obj)}
  (S : At (pre.heap_1_39 w.params) p loose mean mg mb 2 A h₀ L) (F : Fr h₀ L s.heap m) (N : News h₀ L s.heap news) (hh : A.handled = none)
  (hret : ∀ D ys h' tk', StrsAre ys (wds n) → (∀ q ∈ news, q.1 ≠ D) → Fr h₀ L h' m → News h₀ L h' ((D, lst ys) :: news) → Q (.ref D) { s with heap := h', toks := tk' }) :
  wpAny (model PySem.Challenge.rw_pb0473_01.row.prog w) A (call (.ref 152) [.int n tn]) Q E s := by
  obtain ⟨dp, un, gd, cn, cs, a, ccd, cl, outer, A₀, base, rfl, B, X, T, hk, hd', hu⟩ := S.x
  revert X; k_fill; intro X
  refine wpAny_call ?_
  k_dflt (refine' code_frC (act := []) (rest := news) ?k1 ?k2 ?k3 ?k4 ?kR ?kd ?k5 ?kA ?kF ?kK ?k6 ?k7 ?k8 ?k9 ?kB ?kD ?_ ?c2 ?c3 ?c4; (case kA => exact rfl); (case kF => exact rfl); (case kK => assumption); (case k1 => exact B); (case k2 => exact F); (case k3 => exact X); (case k4 => exact News.nil); (case kR => exact N); (case kd => exact fun _ _ h => nomatch h); (case k5 => exact T); (case k6 => k_is); (case k7 => k_is); (case k8 => exact Nat.lt_of_le_of_lt (Nat.le_add_right _ _) hd'); (case k9 => exact BindsTo.of_eq rfl); (case kB => exact rfl); (case kD => decide +kernel); (case c2 => exact rfl); (case c3 => exact rfl); (case c4 => exact rfl); k_whole)
  clear F N
  intro g' L' h' tk' cells' F' N' Y' B' X' T' hR l1
  k_cells Y'; (try simp only [List.cons_append, List.nil_append] at N')
  refine cleanW ?_; (try dsimp only); k_fold
  k_steps
  all_goals first
    | assumption
    | exact CompEnd.intro (by k_asm) (by k_asm) _ (fun _ hp => hp) (by assumption) trivial ⟨rfl, _, _, rfl, by unfold fwd; simp_all⟩
    | exact CompEnd.intro (by k_asm) (by k_asm) _ (fun _ hp => hp) (by assumption) trivial ⟨rfl, by unfold fwd; simp_all⟩
    | exact hret _ _ _ _ (by assumption) (fun q hq e => by have z := (by assumption : News g' L' _ _) _ (.head _); have y := hR q hq; rw [e, z.2.2] at y; cases y) (by assumption) (fun q hq => (List.mem_cons.mp hq).elim (fun e => by rw [e]; exact (by assumption : News h₀ L _ (_ :: _)) _ (.head _)) ((by assumption : News h₀ L _ news) q))

end Fw
section IterS
open PySem PySem.W PyProof.Rows PySem.Spec PySem.Calls PyProof.Rows.LCg
def IterEnd (h₀ : Heap) (L : Addr) (J : (Str → Option Value) → Prop) (own : List (Addr × Obj)) (s₁ s₂ : Shared) : Prop := ∃ h' tk m', s₂ = { s₁ with heap := h', toks := tk } ∧ Fr h₀ L h' m' ∧ News h₀ L h' own ∧ J m'
def IterPost (h₀ : Heap) (L : Addr) (J : (Str → Option Value) → Prop) (own : List (Addr × Obj)) (s₁ : Shared) (Q : Flow → Shared → Prop) (f : Flow) (s₂ : Shared) : Prop :=
  match f with
  | .ret v => Q (.ret v) s₂
  | .brk => Q .next s₂
  | _ => IterEnd h₀ L J own s₁ s₂
theorem strs_at : ∀ {vs : List Value} {ws : List Str}, StrsAre vs ws → ∀ (i : Nat) (v : Value), vs[i]? = some v → ∃ y t, ws[i]? = some y ∧ v = .str y t
  | _, _, .nil, _, _, h => nomatch h
  | _, _, .cons y t r, 0, v, h => ⟨y, t, rfl, by simpa using h.symm⟩
  | _, _, .cons y t r, i + 1, v, h => by
    obtain ⟨y', t', a, b⟩ := strs_at r i v (by simpa using h)
    exact ⟨y', t', by simpa using a, b⟩
theorem strs_len : ∀ {vs : List Value} {ws : List Str}, StrsAre vs ws → vs.length = ws.length
  | _, _, .nil => rfl
  | _, _, .cons _ _ r => by simp [strs_len r]
section
variable {prog : Program} {w : World} {A : Around} {E : Value → Shared → Prop} {s : Shared} {h₀ : Heap} {L : Addr} {env : Env} {x : Str} {body : List Stmt} {Q : Flow → Shared → Prop}
theorem iter_str {l : Addr} {vs : List Value} {ws : List Str} {m₀ : Str → Option Value} (J : Nat → (Str → Option Value) → Prop)
    (hh : A.handled = none) (hl : h₀.IsList l vs.toArray) (hi : StrsAre vs ws) (F : Fr h₀ env.locals s.heap m₀) (hj : J 0 m₀)
    (turn : ∀ i y t m₁ h tk own, ws[i]? = some y → J i m₁ → Fr h₀ env.locals h (fun z => if z = x then some (.str y t) else m₁ z) → News h₀ env.locals h own →
      wpAny (model prog w) A (execs body env) (IterPost h₀ env.locals (J (i + 1)) own { s with heap := h, toks := tk } Q) E { s with heap := h, toks := tk })
    (done : ∀ m₁ h tk, J ws.length m₁ → Fr h₀ env.locals h m₁ → Q .next { s with heap := h, toks := tk }) :
    wpAny (model prog w) A (pyIter (.ref l)) (fun it s₂ => LoopAtV prog w A h₀ env x body Q E it s₂) E s := by
  have hls : s.heap.IsList l vs.toArray := hl.at fun o e => F.keep l o e
  obtain ⟨ol, hol, _⟩ := id hl
  have hlt : l < h₀.objs.size := Heap.lt_size hol
  have hne : l ≠ s.heap.objs.size := Nat.ne_of_lt (Nat.lt_trans (Nat.lt_of_lt_of_le hlt F.above) F.ns.lt)
  refine wpAny_pyIter_list hls ?_
  have W := Walks.list (prog := prog) (w := w) hh s.heap.objs.size l hne vs.toArray
  have hlen : vs.toArray.size = ws.length := by simp [strs_len hi]
  rw [hlen] at W
  refine ⟨_, _, _, ws.length, _, _, m₀, [], fun i m₁ nx => nx = [] ∧ J i m₁, rfl, W, ?_, ?_, (fun _ h => nomatch h), ⟨⟨_, Heap.get?_push_size _ rfl, rfl, rfl⟩, hls.at fun o e => Heap.get?_push_of_some _ e⟩, F.push _, News.nil, ⟨rfl, hj⟩, ?_, ?_⟩
  · intro hm
    rcases List.mem_cons.mp hm with e | hm
    · exact absurd F.ns.lt (e ▸ Nat.lt_irrefl _)
    · exact absurd (Nat.lt_of_lt_of_le hlt F.above) ((List.mem_singleton.mp hm) ▸ Nat.lt_irrefl _)
  · intro b hb
    rw [List.mem_singleton.mp hb]
    exact next_is_new F
  · rintro i v m₁ news₁ s₁ own ⟨hh', tk', rfl⟩ hin hP ⟨rfl, hJ⟩ hoff hown _ _ _ F₁ N₁
    obtain ⟨y, t, hy, rfl⟩ := strs_at hi i v (by simpa using hP)
    rw [List.append_nil] at N₁
    refine wpAny_mono (turn i y t m₁ hh' tk' own hy hJ F₁ N₁) (fun f s₂ q => ?_) fun _ _ e => e
    have fin : IterEnd h₀ env.locals (J (i + 1)) own { s with heap := hh', toks := tk' } s₂ → LoopStepU h₀ env.locals [s.heap.objs.size] own (fun m₁ nx => nx = [] ∧ J (i + 1) m₁) { s with heap := hh', toks := tk' } .next s₂ := by
      rintro ⟨h', tk, m', e, F', N', hm⟩
      exact ⟨rfl, h', tk, m', [], e, F', by rw [List.append_nil]; exact N', (fun _ h => nomatch h), rfl, hm⟩
    cases f with
    | ret v => exact .ret q
    | brk => exact .brk q
    | next => exact .next (fin q)
    | cont => exact .cont (fin q)
  · rintro h' tk m' news' F' N' _ ⟨rfl, hJ⟩
    exact done m' h' tk hJ F'
end

end IterS
section CompS
open PySem PySem.W PyProof.Rows PySem.Spec PySem.Calls PyProof.Rows.LCg
section
variable {prog : Program} {w : World} {A : Around} {h₀ : Heap} {L : Addr} {m : Str → Option Value} {env : Env} {ct elt : Expr} {x : Str} {scope : Scope} {cl : List (Str × Addr)} {s : Shared} {S : List (Addr × Obj) → Prop} {Fin : List Value → List (Addr × Obj) → Prop} {news : List (Addr × Obj)}
theorem st_range {n : Nat} {a : Int} (f : Int → Option Str)
    (turn : ∀ (k : Int) t I oI C oC D m₂ ys h tk (E' : Value → Shared → Prop), a ≤ k → k < a + (n : Int) → NsObj oC m₂ → m₂ x = some (.int k t) → Fr h₀ L h m → News h₀ L h ((I, oI) :: (C, oC) :: (D, lst ys) :: news) → Off3 I C D news → ((@Ne Nat I C) ∧ (@Ne Nat I D) ∧ (@Ne Nat C D)) →
      wpAny (model prog w) A (isTrue ct (compEnvC scope cl C env) (eval ct (compEnvC scope cl C env))) (fun b s' => if b = true then wpAny (model prog w) A (eval elt (compEnvC scope cl C env)) (CompEnd h₀ L m { s with heap := h, toks := tk } I oI C oC D (lst ys) S (fun y news' => StEl news (f k) y news')) E' s'
        else CompEnd h₀ L m { s with heap := h, toks := tk } I oI C oC D (lst ys) S (fun _ news' => StNo news (f k) news') Value.none s') E' { s with heap := h, toks := tk })
    (fin : ∀ ys, StrsAre ys ((List.range n).filterMap fun i : Nat => f (a + (i : Int))) → Fin ys news) : LCt.CompRestT prog w A h₀ L m env ct elt x scope cl s S (fun i v => ∃ t, v = .int (a + (i : Int)) t) Fin n 0 [] news := by
  have key : ∀ (j i : Nat) (ys : List Value), i + j = n → StrsAre ys ((List.range i).filterMap fun i : Nat => f (a + (i : Int))) → LCt.CompRestT prog w A h₀ L m env ct elt x scope cl s S (fun i v => ∃ t, v = .int (a + (i : Int)) t) Fin j i ys news := by
    intro j
    induction j with
    | zero =>
      intro i ys hi hy
      obtain rfl : i = n := by omega
      exact LCt.CompRestT.zero (fin ys hy)
    | succ j ih =>
      intro i ys hi hy
      refine LCt.CompRestT.succ ?_
      intro v I oI C oC D m₂ h tk E' hv hC hx F N off ne
      obtain ⟨t, rfl⟩ := hv
      have hs : ((List.range (i + 1)).filterMap fun i : Nat => f (a + (i : Int))) = ((List.range i).filterMap fun i : Nat => f (a + (i : Int))) ++ (f (a + (i : Int))).toList := by
        rw [List.range_succ, List.filterMap_append]
        cases e : f (a + (i : Int)) <;> simp [e]
      refine wpAny_mono (turn (a + (i : Int)) t I oI C oC D m₂ ys h tk E' (by omega) (by omega) hC hx F N off ne) (fun b s₂ hq => ?_) fun _ _ e => e
      cases b with
      | true =>
        simp only [if_true] at hq ⊢
        refine wpAny_mono hq (fun y s₃ hr => ?_) fun _ _ e => e
        obtain ⟨h', tk', nw, e, F', N', off', hS, rfl, z, t', rfl, hr'⟩ := hr
        exact ⟨h', tk', nw, e, F', N', off', hS, ih (i + 1) _ (by omega) (by rw [hs, hr']; exact strs_snoc hy)⟩
      | false =>
        simp only [Bool.false_eq_true, if_false] at hq ⊢
        obtain ⟨h', tk', nw, e, F', N', off', hS, rfl, hr'⟩ := hq
        exact ⟨h', tk', nw, e, F', N', off', hS, ih (i + 1) _ (by omega) (by rw [hs, hr']; simpa using hy)⟩
  exact key n 0 [] (by omega) .nil
end

end CompS
section DictP
open PySem PySem.W PyProof.Rows PySem.Spec PySem.Calls
theorem miss_keys : typeLookup (.type "tuple") (Str.ofString "keys") = pure none := by rw [typeLookup_type, builtinLookup_eq_fast]; kernel_rfl
set_option maxRecDepth 8000 in
theorem no_keys {prog : Program} {w : World} {A : Around} {E : Value → Shared → Prop} {s : Shared} {a : Addr} {xs : Array Value} {Q : Option Value → Shared → Prop} {k : Nat} {sl : Array (Option Value)}
    (hx : s.heap.get? a = some { cls := .type "tuple", dict := none, data := .seq xs k, slots := sl }) (hA : A.handled = none)
    (h : ∀ h' tk, (∀ b o, s.heap.get? b = some o → h'.get? b = some o) → Q none { s with heap := h', toks := tk }) :
    wpAny (model prog w) A (getAttr? (.ref a) "keys") Q E s := by
  obtain ⟨hp, g, d, tk, os⟩ := s
  have hT : ∀ tk', (⟨hp, g, d, tk', os⟩ : Shared).TypeIs (.ref a) "tuple" := fun _ => ⟨_, hx, rfl⟩
  have f1 := sub_AttributeError
  have f3 := F.slot_tuple_getattribute.lookup
  have f4 := F.slot_tuple_getattribute.bind (.ref a)
  have f5 := am_tuple_getattr_none
  unfold getAttr? getAttrBy? getAttrBy
  repeat (any_goals (first | assumption | exact hT _ | ((with_reducible show wpAny _ _ (call (Value.builtin "tuple.__getattribute__") _ _) _ _ _); refine call_meets F.slot_tuple_getattribute (hT _) am_entry_tuple_getattribute (F.args_tuple_getattribute_2 _ _) (meets_getattribute_miss_tuple a xs k sl (Str.ofString "keys") _ miss_keys (by decide +kernel)) ⟨hx, hA, fun h' tk' e hx' => ?_⟩) | wp_step))
  obtain ⟨t', u', he⟩ := hx'.there
  show wpAny _ _ (getattributeRaised _ _ _ _ _ _ _) _ _ _
  unfold getattributeRaised
  repeat (any_goals (first | assumption | wp_step))
  exact h _ _ hx'.keeps
theorem entry_dul : entryFor table "dict.update.loop" = some Builtin.«dict.update.loop» := entryFor_of_fast (by kernel_rfl)
theorem quiet_dul (args : Args) : (Code.builtin "dict.update.loop" args).quiet = true := Code.quiet_builtin args (by decide +kernel)
theorem upd_loop {prog : Program} {w : World} {A : Around} {R : Result → Shared → Prop} {d I T : Addr} {ps : List FP} (hh : A.handled = none) (hdI : d ≠ I) (hTI : T ≠ I) (hTd : T ≠ d) (hpI : ∀ q ∈ ps, q.ad ≠ I ∧ q.ad ≠ d) (hsz : ps.length ≤ 1000) :
    ∀ (j i : Nat) (kvs : List (Str × Value)) (s : Shared), i + j = ps.length → kvs.length ≤ i → s.heap.IsTupleIter I T i → s.heap.IsTuple T (ps.map fun q => Value.ref q.ad).toArray → (∀ q ∈ ps, q.At s.heap) → s.heap.DictOf (strKind prog w) d kvs →
      (∀ h' tk, h'.DictOf (strKind prog w) d ((ps.drop i).foldl (fun k q => stored k q.x (.int q.b q.u)) kvs) → (∀ b o, b ≠ I → b ≠ d → s.heap.get? b = some o → h'.get? b = some o) → R (.ok (.ret .none)) { s with heap := h', toks := tk }) →
      codeAny (model prog w) A (.builtin "dict.update.loop" ⟨[.ref d, .ref I, .int i 0, .none], []⟩) R s := by
  intro j
  induction j with
  | zero =>
    intro i kvs s hi hk hit hT hps hd hR
    refine codeAny_builtin entry_dul ?_
    unfold Builtin.«dict.update.loop»
    have W := Walks.tuple (prog := prog) (w := w) (A := A.under (.builtin "dict.update.loop" ⟨[.ref d, .ref I, .int i 0, .none], []⟩)) hh I T hTI (ps.map fun q => Value.ref q.ad).toArray
    have hlen : (ps.map fun q => Value.ref q.ad).toArray.size = ps.length := by simp
    rw [hlen] at W
    obtain rfl : i = ps.length := by omega
    refine wpAny_bind (W.done _ _ _ ⟨hit, hT⟩ fun h' tk hk' => ?_)
    refine wpAny_bind (wpAny_pure ?_)
    exact wpAny_pure (hR h' tk (by rw [List.drop_length]; exact hd.at fun o e => hk' _ _ (by simpa using hdI) e) fun b o h1 _ e => hk' b o (by simpa using h1) e)
  | succ j ih =>
    intro i kvs s hi hk hit hT hps hd hR
    refine codeAny_builtin entry_dul ?_
    unfold Builtin.«dict.update.loop»
    have W := Walks.tuple (prog := prog) (w := w) (A := A.under (.builtin "dict.update.loop" ⟨[.ref d, .ref I, .int i 0, .none], []⟩)) hh I T hTI (ps.map fun q => Value.ref q.ad).toArray
    have hlen : (ps.map fun q => Value.ref q.ad).toArray.size = ps.length := by simp
    rw [hlen] at W
    have hlt : i < ps.length := by omega
    have hq : ps[i] ∈ ps := List.getElem_mem hlt
    refine wpAny_bind (W.item i _ _ _ hlt ⟨hit, hT⟩ fun v h₂ tk hv hst₂ hk₂ => ?_)
    have hv' : v = .ref ps[i].ad := by simp [hlt] at hv; exact hv.symm
    subst hv'
    have hP : h₂.IsTuple ps[i].ad #[.str ps[i].x ps[i].t, .int ps[i].b ps[i].u] := (hps _ hq).at fun o e => hk₂ _ _ (by simpa using (hpI _ hq).1) e
    refine wpAny_bind (wpAny_holding (wpAny_bind (wpAny_tryCatch ?_)))
    unfold Builtin.Dict.pairItems
    refine wpAny_bind (wpAny_typeOf (T := "tuple") (Heap.IsTuple.typeIs (s := { s with heap := h₂, toks := tk }) hP) ?_)
    rw [if_pos (by decide)]
    obtain ⟨oP, hoP, _, nP, hdP⟩ := id hP
    refine wpAny_bind (wpAny_seqItems (s := { s with heap := h₂, toks := tk }) hoP hdP (wpAny_pure ?_))
    have hd₂ : h₂.DictOf (strKind prog w) d kvs := hd.at fun o e => hk₂ _ _ (by simpa using hdI) e
    show wpAny _ _ (holding _ (dictSet d (.str ps[i].x ps[i].t) (.int ps[i].b ps[i].u))) _ _ _
    refine wpAny_holding (wpAny_dictSet_pairs (s := { s with heap := h₂, toks := tk }) (strKind_is prog w _ _) hd₂ (fun h₃ hd₃ hs₃ => ?_) (hsz := by rw [sizeLine_eq]; omega))
    refine wpAny_pure ⟨quiet_dul _, ?_⟩
    have hap : ∀ b, b ≠ d → ∀ o, h₂.get? b = some o → h₃.get? b = some o := fun b hb o e => (hs₃.2 b hb).trans e
    have hIt : h₃.IsTupleIter I T (i + 1) := hst₂.1.at fun o e => hap _ (Ne.symm hdI) o e
    have e1 : (rawInt ((i : Int) + 1)) = Value.int ((i + 1 : Nat) : Int) 0 := by simp [rawInt]
    rw [e1]
    have hl' : (stored kvs ps[i].x (Value.int ps[i].b ps[i].u)).length ≤ i + 1 := by
      unfold stored; split
      · rw [List.length_map]; omega
      · rw [List.length_append, List.length_singleton]; omega
    refine ih (i + 1) _ _ (by omega) hl' hIt (hst₂.2.at fun o e => hap _ hTd o e) (fun q hq' => (hps q hq').at fun o e => hap _ (hpI q hq').2 o (hk₂ _ _ (by simpa using (hpI q hq').1) e)) hd₃ fun h' tk' hd' hk' => ?_
    refine hR h' tk' ?_ fun b o b1 b2 e => hk' b o b1 b2 (hap b b2 o (hk₂ b o (by simpa using b1) e))
    rw [List.drop_eq_getElem_cons hlt, List.foldl_cons]
    exact hd'
def fdict (ps : List FP) : List (Str × Value) := ps.foldl (fun k q => stored k q.x (.int q.b q.u)) []
theorem dict_pairs {prog : Program} {w : World} {A : Around} {E : Value → Shared → Prop} {s : Shared} {h₀ : Heap} {L T : Addr} {m : Str → Option Value} {news : List (Addr × Obj)} {ps : List FP} {k : Nat} {sl : Array (Option Value)} {Q : Value → Shared → Prop}
    (FF : Fr h₀ L s.heap m) (N : News h₀ L s.heap news) (hbig : sysModules < h₀.objs.size) (hT : h₀.get? T = some { cls := .type "tuple", dict := none, data := .seq (ps.map fun q => Value.ref q.ad).toArray k, slots := sl }) (hps : ∀ q ∈ ps, q.At h₀) (hh : A.handled = none) (hsz : ps.length ≤ 1000)
    (hk : ∀ D h' tk o, Fr h₀ L h' m → News h₀ L h' ((D, o) :: news) → (∀ q ∈ news, q.1 < D) → (D == sysModules) = false → o.IsDictOf (strKind prog w) (fdict ps) → Q (.ref D) { s with heap := h', toks := tk }) :
    wpAny (model prog w) A (call (.type "dict") [.ref T]) Q E s := by
  refine callType_codes (Q₁ := fun obj s₁ => obj = .ref s.heap.objs.size ∧ s₁ = { s with heap := s.heap.push { cls := .type "dict", data := .dict #[] } }) PySem.F.kt_called_dict (PySem.F.kt_typeCall_dict_1 _) PySem.F.entry_dict_init (kt_code_dict_new _ ⟨rfl, rfl⟩) ?_
  rintro obj s₁ ⟨rfl, rfl⟩
  have hnew : (s.heap.push { cls := .type "dict", data := .dict #[] }).DictOf (strKind prog w) s.heap.objs.size [] := Heap.DictOf.new s.heap
  have hTs := FF.keep _ _ hT
  have hTp : (s.heap.push { cls := .type "dict", data := .dict #[] }).get? T = some { cls := .type "tuple", dict := none, data := .seq (ps.map fun q => Value.ref q.ad).toArray k, slots := sl } := Heap.get?_push_of_some _ hTs
  refine ⟨hnew.typeIs, PySem.F.args_dict_init_2 _ _, ?_⟩
  unfold Builtin.«dict.__init__»
  refine wpAny_bind ?_
  unfold Builtin.Dict.selfAndRest
  refine wpAny_bind (wpAny_notOrdered_dict hnew.typeIs ?_)
  show wpAny _ _ (pure (s.heap.objs.size, [Value.ref T])) _ _ _
  refine wpAny_pure ?_
  show wpAny _ _ (Builtin.Dict.updateFrom "dict.__init__" s.heap.objs.size (.ref T) [] .none) _ _ _
  unfold Builtin.Dict.updateFrom
  refine wpAny_bind (wpAny_typeOf (T := "tuple") ⟨_, hTp, rfl⟩ ?_)
  rw [if_pos (by decide)]
  refine wpAny_bind (no_keys hTp (by first | exact hh | rfl) fun h₁ tk₁ k₁ => ?_)
  simp only [Option.isNone_none, if_true]
  have hT₁ : h₁.IsTuple T (ps.map fun q => Value.ref q.ad).toArray := ⟨_, k₁ _ _ hTp, rfl, k, rfl⟩
  have old₁ : ∀ b o, s.heap.get? b = some o → h₁.get? b = some o := fun b o e => k₁ _ _ (Heap.get?_push_of_some _ e)
  have hd₁ : h₁.DictOf (strKind prog w) s.heap.objs.size [] := hnew.at fun o e => k₁ _ _ e
  have hdlt : s.heap.objs.size < h₁.objs.size := by obtain ⟨o, _, _, ho, _⟩ := hd₁; exact Heap.lt_size ho
  refine wpAny_bind (wpAny_rule (wpAny_bind (wpAny_pyIter_tuple (s := { s with heap := h₁, toks := tk₁ }) hT₁ (wpAny_pure ⟨quiet_dul _, ?_⟩))))
  have hTlt : T < s.heap.objs.size := Heap.lt_size hTs
  have hplt : ∀ q ∈ ps, q.ad < s.heap.objs.size := fun q hq => by obtain ⟨o, ho, _⟩ := (hps q hq); exact Heap.lt_size (FF.keep _ _ ho)
  refine upd_loop (T := T) (ps := ps) (by exact hh) (Nat.ne_of_lt hdlt) (Nat.ne_of_lt (Nat.lt_trans hTlt hdlt)) (Nat.ne_of_lt hTlt) (fun q hq => ⟨Nat.ne_of_lt (Nat.lt_trans (hplt q hq) hdlt), Nat.ne_of_lt (hplt q hq)⟩) hsz ps.length 0 [] _ (by omega) (Nat.le_refl _) ⟨_, Heap.get?_push_size _ rfl, rfl, rfl⟩ (hT₁.push _) (fun q hq => Heap.IsTuple.push ((hps q hq).at fun o e => old₁ _ _ (FF.keep _ _ e)) _) (hd₁.push _) fun h' tk hd' hk' => ?_
  have old : ∀ b o, s.heap.get? b = some o → h'.get? b = some o := fun b o e => hk' b o (Nat.ne_of_lt (Nat.lt_trans (Heap.lt_size e) hdlt)) (Nat.ne_of_lt (Heap.lt_size e)) (Heap.get?_push_of_some _ (old₁ b o e))
  obtain ⟨o', ho', hd''⟩ := Heap.dictOf_iff.mp hd'
  refine ⟨rfl, hk s.heap.objs.size h' tk o' (FF.keeps old) (fun q hq => ?_) (fun q hq => Heap.lt_size (N q hq).1) (FF.notModules hbig) hd''⟩
  rcases List.mem_cons.mp hq with rfl | hq
  · exact ⟨ho', Nat.ne_of_gt FF.ns.lt, next_is_new FF⟩
  · exact ⟨old _ _ (N q hq).1, (N q hq).2⟩

end DictP
section DrawC
open PySem PySem.W PyProof.Rows PySem.Spec PySem.Calls
theorem pw1 {c : Int} (x spot : Int) (h : 0 ≤ spot ∧ spot ≤ 100 ∧ 0 ≤ c) : (x.fmod 2147483587 + 20947 * spot + 3571).natAbs < 2^64 := by
  have := Int.fmod_nonneg_of_pos x (b := 2147483587) (by decide)
  have := Int.fmod_lt_of_pos x (b := 2147483587) (by decide)
  omega
theorem pw2 {c : Int} (x spot : Int) (h : 0 ≤ spot ∧ spot ≤ 100 ∧ 0 ≤ c) : (x.fmod 2147483629 * (2 * spot + 7207) + 20947 * spot * spot + 31).natAbs < 2^64 := by
  have a1 := Int.fmod_nonneg_of_pos x (b := 2147483629) (by decide)
  have a2 := Int.fmod_lt_of_pos x (b := 2147483629) (by decide)
  generalize x.fmod 2147483629 = y at *
  have b1 : 0 ≤ y * (2 * spot + 7207) := Int.mul_nonneg a1 (by omega)
  have b2 : y * (2 * spot + 7207) ≤ 2147483629 * 7407 := Int.mul_le_mul (by omega) (by omega) (by omega) (by omega)
  have b3 : 0 ≤ 20947 * spot * spot := Int.mul_nonneg (by omega) h.1
  have b4 : 20947 * spot * spot ≤ 2094700 * 100 := Int.mul_le_mul (by omega) h.2.1 h.1 (by omega)
  omega
theorem fm01 (x : Int) {many : Int} (h : 2 ≤ many ∧ many ≤ 1024) : 0 ≤ x.fmod many ∧ x.fmod many < many := ⟨Int.fmod_nonneg_of_pos x (by omega), Int.fmod_lt_of_pos x (by omega)⟩
theorem fd0 {x many : Int} (h0 : 0 ≤ x) (h : 2 ≤ many ∧ many ≤ 1024) : 0 ≤ x.fdiv many := by rw [Int.fdiv_eq_ediv_of_nonneg _ (by omega)]; exact Int.ediv_nonneg h0 (by omega)
theorem gr0 {c : Int} {b : Bool} (h : (10 : Int) ^ Int.toNat 18 ≤ (if c < 0 then -c else c)) : 0 ≤ 2 * ((if c < 0 then -c else c) - 10 ^ Int.toNat 18) + (if b = true then (1 : Int) else 0) := by
  have e : (10 : Int) ^ Int.toNat 18 = 1000000000000000000 := rfl
  rw [e] at h ⊢; generalize (if c < 0 then -c else c) = y at *; cases b <;> simp <;> omega
theorem sp1 {spot carry : Int} (h : 0 ≤ spot ∧ spot ≤ 100 ∧ 0 ≤ carry) {c : Int} (hc : 0 ≤ c) : 0 ≤ spot + 1 ∧ spot + 1 ≤ spot + 1 ∧ 0 ≤ c := ⟨by omega, by omega, hc⟩
theorem sp0 {spot carry : Int} (h : 0 ≤ spot ∧ spot ≤ 100 ∧ 0 ≤ carry) {c : Int} (hc : 0 ≤ c) : 0 ≤ spot ∧ spot ≤ spot + 1 ∧ 0 ≤ c := ⟨by omega, by omega, hc⟩
theorem nd1 {h₀ h : Heap} {L : Addr} {q : Addr × Obj} {l : List (Addr × Obj)} (N : News h₀ L h (q :: l)) : News h₀ L h l := fun p hp => N p (.tail _ hp)
theorem ne_nilK {prog : Program} {w : World} {A : Around} {E : Value → Shared → Prop} {s : Shared} {a b : Addr} {vs : List Value} {ns : List Int} {Q : Value → Shared → Prop} (hl : s.heap.IsList a vs.toArray) (hi : IntsAre vs ns) (hl' : s.heap.IsList b #[]) (hu : A.units + 64 < cLine)
    (h : Q (.bool (decide (0 < ns.length))) s) : wpAny (model prog w) A (compareOp .NotEq (.ref a) (.ref b)) Q E s :=
  ne_intsK hl hi hl' IntsAre.nil hu (by have e : (!decide (ns = [])) = decide (0 < ns.length) := (by cases ns <;> simp); rw [e]; exact h)
theorem st_gen {M : Model} {A : Around} {E : Value → Shared → Prop} {s : Shared} {env : Env} {x : Str} {v : Int} {t : Tok} {Q : Unit → Shared → Prop} (h : ∀ c : Int, wpAny M A (storeName env x (.int c t)) Q E s) : wpAny M A (storeName env x (.int v t)) Q E s := h v
def lf_6 : Lean.MacroM Tc := `(tactic| (with_reducible refine pow_int_small ?kb1 ?kb2 ?kb3 ?_))
def lf_7 : Lean.MacroM Tc := `(tactic| (first | decide | with_reducible exact pw1 _ _ (by assumption) | with_reducible exact pw2 _ _ (by assumption)))
local macro_rules | `(tactic| walk_at "binaryOp Pow int int") => sq [lf_6, css "kb1:d kb2:d", cs "kb3" lf_7]
def lf_8 : Lean.MacroM Tc := `(tactic| (exact News.isList (by assumption) (by k_mem)))
local macro_rules | `(tactic| walk_at "compareOp NotEq ref ref") => sq [ys "h", kd [rf ``ne_nilK "k1 k2 k3 k5 _", css "k1:il k2:a", cs "k3" lf_8, css "k5:ku", ys "w"]]
def lf_9 : Lean.MacroM Tc := `(tactic| (with_reducible show wpAny _ _ (storeName _ (Str.ofString "cell") (Value.int (_ + _) _)) _ _ _))
def lf_10 : Lean.MacroM Tc := `(tactic| (refine st_gen ?_))
local macro_rules | `(tactic| walk_at "storeName") => sq [lf_9, lf_10, ins "cc"]
set_option maxRecDepth 100000 in
set_option maxHeartbeats 8000000 in
theorem draw_c {w : World} {p : Program} {loose : List Str} {mean : ExcName → Option Value} {mg mb : Str → Option Value} {A : Around} {h₀ : Heap} {L : Addr} {m : Str → Option Value} {s : Shared} {Q E : Value → Shared → Prop}
  (many : Int) (tm : Tok) (hm : 2 ≤ many ∧ many ≤ 1024) {pen cells : Addr} {ys : List Value} {ns : List Int} {spot carry : Int} {t1 t2 : Tok} {k k2 : Nat} {news : List (Addr × Obj)} {fn : Obj → List (Addr × Obj)}
  (S : At (pre.heap_1_39 w.params) p loose mean mg mb 1 A h₀ L) (F : Fr h₀ L s.heap m) (N : News h₀ L s.heap news)
  (U : UpdF pen (listOf #[.ref cells, .int spot t1, .int carry t2] k) news fn) (hc : Live h₀ news cells (listOf ys.toArray k2)) (hne : @Ne Nat cells pen)
  (hI : IntsAre ys ns) (hL : ns.length ≤ 40) (hs : 0 ≤ spot ∧ spot ≤ 100 ∧ 0 ≤ carry)
  (hret : ∀ d t spot' t1' carry' t2' h' tk', (0 ≤ d ∧ d < many) → (0 ≤ spot' ∧ spot' ≤ spot + 1 ∧ 0 ≤ carry') → Fr h₀ L h' m → News h₀ L h' (fn (listOf #[.ref cells, .int spot' t1', .int carry' t2'] k)) → Q (.int d t) { s with heap := h', toks := tk' }) :
  wpAny (model PySem.Challenge.rw_pb0473_01.row.prog w) A (call (.ref 297) [.ref pen, .int many tm]) Q E s := by
  obtain ⟨dp, un, gd, cn, cs, a, ccd, cl, outer, A₀, base, rfl, B, X, T, hk, hd', hu⟩ := S.x
  obtain ⟨pre, post, rfl, hfn, hp1, hp2⟩ := U.split
  have NA : News h₀ L s.heap [(pen, listOf #[.ref cells, .int spot t1, .int carry t2] k)] := fun q hq => N q (List.mem_append_right _ (by rw [List.mem_singleton.mp hq]; exact .head _))
  have NR : News h₀ L s.heap (pre ++ post) := fun q hq => N q ((List.mem_append.mp hq).elim (fun e => List.mem_append_left _ e) fun e => List.mem_append_right _ (.tail _ e))
  have hdis : ∀ q ∈ pre ++ post, q.1 ∉ [(pen, listOf #[.ref cells, .int spot t1, .int carry t2] k)].map (·.1) := fun q hq e => ((List.mem_append.mp hq).elim (hp1 q) (hp2 q)) (List.mem_singleton.mp e)
  have hc' : Live h₀ (pre ++ post) cells (listOf ys.toArray k2) := hc.imp id fun hc => (List.mem_append.mp hc).elim (fun e => List.mem_append_left _ e) fun e => (List.mem_cons.mp e).elim (fun e => absurd (congrArg Prod.fst e) hne) fun e => List.mem_append_right _ e
  have hret' : ∀ d t spot' t1' carry' t2' h' tk', (0 ≤ d ∧ d < many) → (0 ≤ spot' ∧ spot' ≤ spot + 1 ∧ 0 ≤ carry') → Fr h₀ L h' m → News h₀ L h' [(pen, listOf #[.ref cells, .int spot' t1', .int carry' t2'] k)] → News h₀ L h' (pre ++ post) → Q (.int d t) { s with heap := h', toks := tk' } :=
    fun d t spot' t1' carry' t2' h' tk' a1 a2 a3 a4 a5 => hret d t spot' t1' carry' t2' h' tk' a1 a2 a3 (by rw [hfn]; exact fun q hq => (List.mem_append.mp hq).elim (fun e => a5 q (List.mem_append_left _ e)) fun e => (List.mem_cons.mp e).elim (fun e => by rw [e]; exact a4 _ (.head _)) fun e => a5 q (List.mem_append_right _ e))
  revert X; k_fill; intro X
  refine wpAny_call ?_
  k_dflt (refine' code_fs (rest := pre ++ post) ?k1 ?k2 ?k3 ?k4 ?kR ?kd ?k5 ?kA ?kF ?kK ?k6 ?k7 ?k8 ?k9 ?kB ?_ ?c2 ?c3 ?c4 ?c5; (case kA => exact rfl); (case kF => exact rfl); (case kK => assumption); (case k1 => exact B); (case k2 => exact F); (case k3 => exact X); (case k4 => exact NA); (case kR => exact NR); (case kd => exact hdis); (case k5 => exact T); (case k6 => k_is); (case k7 => k_is); (case k8 => exact Nat.lt_of_le_of_lt (Nat.le_add_right _ _) hd'); (case k9 => exact BindsTo.of_eq rfl); (case c5 => decide); (case kB => exact locs rfl); (case c2 => exact rfl); (case c3 => exact rfl); (case c4 => exact rfl); k_whole)
  clear N U hc hret hfn NA NR hdis S F hp1 hp2
  intro g' L' h' F' N' B' X' T' hR hS l1
  have hLc : g'.IsList cells ys.toArray := ⟨_, hc'.at hS hR, rfl, _, rfl⟩
  clear hR hc' hS
  refine cleanW ?_; (try dsimp only); k_fold
  k_steps
  all_goals (refine' hret' _ _ _ _ _ _ _ _ (fm01 _ hm) ?hb ?hF ?hN ?hR; (case hF => assumption); (case hN => first | assumption | exact nd1 (by assumption) | exact nd1 (nd1 (by assumption)) | exact nd1 (nd1 (nd1 (by assumption)))); (case hR => assumption); (case hb => first | exact sp0 hs (fd0 hs.2.2 hm) | exact sp1 hs hs.2.2 | exact sp1 hs (fd0 (gr0 (by assumption)) hm)))

end DrawC
section Pick
open PySem PySem.W PyProof.Rows PySem.Spec PySem.Calls
theorem item_any {prog : Program} {w : World} {A : Around} {E : Value → Shared → Prop} {s : Shared} {value slice : PySem.Expr} {l : Addr} {vs : List Value} {k : Int} {u : Tok} {Q : Value → Shared → Prop}
    (hl : s.heap.IsList l vs.toArray) (h0 : 0 ≤ k ∧ k < (vs.length : Int)) (hlen : vs.length ≤ 1024) (h : ∀ v, vs[k.toNat]? = some v → Q v s)
    (hs : subscripted slice false (.ref l) (.int k u) = operate [.ref l, .int k u] (getItem (.ref l) (.int k u)) := by with_unfolding_all rfl) :
    wpAny (model prog w) A (subscriptTail value slice (.ref l) (.int k u)) Q E s := by
  have hk : k.toNat < vs.length := by omega
  exact tail_any hl.typeIs slot_list_getitem.lookup (wpAny_getItem_list hl h0.1 (by omega) (by simp [hk]; rfl) (h _ (by simp [hk]))) hs
def lf_11 : Lean.MacroM Tc := `(tactic| (first | assumption | (simp only [List.size_toArray]; omega)))
local macro_rules | `(tactic| walk_at "call ref") => sq [shw 297 "ri", kd [rf ``draw_c ". . km kS kF kN kU kc kne kI kL ks _", cs "km" lf_11, css "kS:at kF:k kN:k kU:u kc:ia kne:a kI:a kL:a ks:a", ys "w"], ins "d t spot' t1' carry' t2' h' tk' hd hs F' N'", ys "dN sw"]
theorem item_str {prog : Program} {w : World} {A : Around} {E : Value → Shared → Prop} {s : Shared} {value slice : PySem.Expr} {l : Addr} {vs : List Value} {ws : List Str} {k : Int} {u : Tok} {Q : Value → Shared → Prop}
    (hl : s.heap.IsList l vs.toArray) (hW : StrsAre vs ws) (h0 : 0 ≤ k ∧ k < (ws.length : Int)) (hlen : 2 ≤ (ws.length : Int) ∧ (ws.length : Int) ≤ 1024) (h : ∀ x t, x ∈ ws → Q (.str x t) s)
    (hs : subscripted slice false (.ref l) (.int k u) = operate [.ref l, .int k u] (getItem (.ref l) (.int k u)) := by with_unfolding_all rfl) :
    wpAny (model prog w) A (subscriptTail value slice (.ref l) (.int k u)) Q E s := by
  have hv := strs_len hW
  refine item_any hl (by omega) (by omega) (fun v hv => ?_) hs
  obtain ⟨y, t, hy, rfl⟩ := strs_at hW _ _ hv
  exact h y t (List.mem_of_getElem? hy)
def lf_12 : Lean.MacroM Tc := `(tactic| (with_reducible show wpAny _ _ (subscriptTail _ _ (Value.ref _) (Value.int _ _)) _ _ _))
def lf_13 : Lean.MacroM Tc := `(tactic| (refine' item_str ?k1 (by assumption) (by assumption) (by assumption) ?_ ?k6))
local macro_rules | `(tactic| walk_at "subscriptTail") => sq [ys "h", lf_12, wu [lf_13, css "k1:il k6:ur", ys "w"], ins "x' t' hx'"]
set_option maxRecDepth 100000 in
set_option maxHeartbeats 8000000 in
theorem pick_c {w : World} {p : Program} {loose : List Str} {mean : ExcName → Option Value} {mg mb : Str → Option Value} {A : Around} {h₀ : Heap} {L : Addr} {m : Str → Option Value} {s : Shared} {Q E : Value → Shared → Prop}
  {so : Addr} {ws : List Str} {vs : List Value} {k3 : Nat} (hW : StrsAre vs ws) (hm : 2 ≤ ws.length ∧ ws.length ≤ 1024) {pen cells : Addr} {ys : List Value} {ns : List Int} {spot carry : Int} {t1 t2 : Tok} {k k2 : Nat} {news : List (Addr × Obj)} {fn : Obj → List (Addr × Obj)}
  (S : At (pre.heap_1_39 w.params) p loose mean mg mb 4 A h₀ L) (F : Fr h₀ L s.heap m) (N : News h₀ L s.heap news)
  (U : UpdF pen (listOf #[.ref cells, .int spot t1, .int carry t2] k) news fn) (hc : Live h₀ news cells (listOf ys.toArray k2)) (hne : @Ne Nat cells pen) (hso : Live h₀ news so (listOf vs.toArray k3)) (hne2 : @Ne Nat so pen)
  (hI : IntsAre ys ns) (hL : ns.length ≤ 40) (hs : 0 ≤ spot ∧ spot ≤ 100 ∧ 0 ≤ carry)
  (hret : ∀ x t spot' t1' carry' t2' h' tk', x ∈ ws → (0 ≤ spot' ∧ spot' ≤ spot + 1 ∧ 0 ≤ carry') → Fr h₀ L h' m → News h₀ L h' (fn (listOf #[.ref cells, .int spot' t1', .int carry' t2'] k)) → Q (.str x t) { s with heap := h', toks := tk' }) :
  wpAny (model PySem.Challenge.rw_pb0473_01.row.prog w) A (call (.ref 304) [.ref pen, .ref so]) Q E s := by
  obtain ⟨dp, un, gd, cn, cs, a, ccd, cl, outer, A₀, base, rfl, B, X, T, hk, hd', hu⟩ := S.x
  obtain ⟨pre, post, rfl, hfn, hp1, hp2⟩ := U.split
  have NA : News h₀ L s.heap [(pen, listOf #[.ref cells, .int spot t1, .int carry t2] k)] := fun q hq => N q (List.mem_append_right _ (by rw [List.mem_singleton.mp hq]; exact .head _))
  have NR : News h₀ L s.heap (pre ++ post) := fun q hq => N q ((List.mem_append.mp hq).elim (fun e => List.mem_append_left _ e) fun e => List.mem_append_right _ (.tail _ e))
  have hdis : ∀ q ∈ pre ++ post, q.1 ∉ [(pen, listOf #[.ref cells, .int spot t1, .int carry t2] k)].map (·.1) := fun q hq e => ((List.mem_append.mp hq).elim (hp1 q) (hp2 q)) (List.mem_singleton.mp e)
  have sub : ∀ {b : Addr} {o : Obj}, @Ne Nat b pen → Live h₀ (pre ++ (pen, listOf #[.ref cells, .int spot t1, .int carry t2] k) :: post) b o → Live h₀ (pre ++ post) b o := fun ne l => l.imp id fun hc => (List.mem_append.mp hc).elim (fun e => List.mem_append_left _ e) fun e => (List.mem_cons.mp e).elim (fun e => absurd (congrArg Prod.fst e) ne) fun e => List.mem_append_right _ e
  have hret' : ∀ x t spot' t1' carry' t2' h' tk', x ∈ ws → (0 ≤ spot' ∧ spot' ≤ spot + 1 ∧ 0 ≤ carry') → Fr h₀ L h' m → News h₀ L h' [(pen, listOf #[.ref cells, .int spot' t1', .int carry' t2'] k)] → News h₀ L h' (pre ++ post) → Q (.str x t) { s with heap := h', toks := tk' } :=
    fun x t spot' t1' carry' t2' h' tk' a1 a2 a3 a4 a5 => hret x t spot' t1' carry' t2' h' tk' a1 a2 a3 (by rw [hfn]; exact fun q hq => (List.mem_append.mp hq).elim (fun e => a5 q (List.mem_append_left _ e)) fun e => (List.mem_cons.mp e).elim (fun e => by rw [e]; exact a4 _ (.head _)) fun e => a5 q (List.mem_append_right _ e))
  have hcl := sub hne hc
  have hsl := sub hne2 hso
  revert X; k_fill; intro X
  refine wpAny_call ?_
  k_dflt (refine' code_fs (rest := pre ++ post) ?k1 ?k2 ?k3 ?k4 ?kR ?kd ?k5 ?kA ?kF ?kK ?k6 ?k7 ?k8 ?k9 ?kB ?_ ?c2 ?c3 ?c4 ?c5; (case kA => exact rfl); (case kF => exact rfl); (case kK => assumption); (case k1 => exact B); (case k2 => exact F); (case k3 => exact X); (case k4 => exact NA); (case kR => exact NR); (case kd => exact hdis); (case k5 => exact T); (case k6 => k_is); (case k7 => k_is); (case k8 => exact Nat.lt_of_le_of_lt (Nat.le_add_right _ _) hd'); (case k9 => exact BindsTo.of_eq rfl); (case c5 => decide); (case kB => exact locs rfl); (case c2 => exact rfl); (case c3 => exact rfl); (case c4 => exact rfl); k_whole)
  clear N U hc hret hfn NA NR hdis S F hp1 hp2
  intro g' L' h' F' N' B' X' T' hR hS l1
  have hcl' := hcl.at hS hR
  have hLs : g'.IsList so vs.toArray := ⟨_, hsl.at hS hR, rfl, _, rfl⟩
  have hvl : vs.length = ws.length := strs_len hW
  have hvl2 : 2 ≤ (ws.length : Int) ∧ (ws.length : Int) ≤ 1024 := by omega
  clear hR hcl hsl hS hso sub
  refine cleanW ?_; (try dsimp only); k_fold
  k_steps
  all_goals exact hret' _ _ _ _ _ _ _ _ (by assumption) (by assumption) (by assumption) (by assumption) (by assumption)

end Pick
section Rz
open PySem PySem.W PyProof.Rows PySem.Spec PySem.Calls
open Builtin Builtin.ObjectAttr
set_option maxRecDepth 100000
section
variable {prog : Program} {w : World} {A : Around} {E : Value → Shared → Prop} {h : Heap} {g : Array GenState} {d : Drawn} {t : Nat} {os : OsState}
variable {nm q : Str} {C N x : Addr} {bs bm : List Value} {sn : List Str} {sub : List Value} {ab : Bool} {col : Option Bool} {dd : Option Addr} {k0 k1 k2 k3 k5 : Option Value} {B newId sa owner : String}
  {mN : Str → Option Value} {name : Str} {v : Value} {o : Obj}
theorem after_dict {h : Heap} {x : Addr} {o : Obj} (hx : h.get? x = some o) {h2 : Heap} (e : h2 = (h.push { cls := .type "dict", data := .dict #[] }).update x fun o => { cls := o.cls, dict := some h.objs.size, data := o.data, slots := o.slots }) :
    h2.Ns h.objs.size (fun _ => none) ∧ h2.get? x = some { o with dict := some h.objs.size } ∧ ∀ b ob, b ≠ x → h.get? b = some ob → h2.get? b = some ob := by
  subst e
  have pushed : ∀ b ob, h.get? b = some ob → (h.push { cls := .type "dict", data := .dict #[] }).get? b = some ob := fun b ob hb => Heap.get?_push_of_some _ hb
  refine ⟨⟨{ cls := .type "dict", data := .dict #[] }, #[], 0, ?_, rfl, (fun _ he => by simp at he), fun _ => rfl⟩, ?_, fun b ob hbx hb => ?_⟩
  · rw [Heap.get?_update_ne _ _ _ _ (Ne.symm (Nat.ne_of_lt (Heap.lt_size hx)))]
    exact Heap.get?_push_at rfl rfl
  · refine Heap.get?_update_self _ (pushed x o hx) ?_
    have fr := (Heap.get?_some_iff.mp hx).2
    rcases o with ⟨c, dd, da, sl⟩
    cases da <;> first | exact fr | rfl
  · rw [Heap.get?_update_ne _ _ _ _ hbx]
    exact pushed b ob hb
theorem first_store {Q : Unit → Shared → Prop} (SF : StoreFacts B bm sa owner)
    (hC : h.get? C = some (excClassObj nm q C N bs bm true sn sub ab col dd k0 k1 k2 k3 k5 newId)) (hn : h.Ns N mN) (hns : mN "__setattr__" = none) (hna : mN name = none)
    (hB : typeLookup (.type B) name = pure none) (hx : h.get? x = some o) (hc : o.cls = .ref C) (hnc : ∀ c, o.data ≠ .cls c) (hdn : o.dict = none)
    (hq : ∀ h' tk', h'.get? x = some { o with dict := some h.objs.size } → h'.Ns1 h.objs.size (fun y => if y = name then some v else none) → (∀ b ob, b ≠ x → h.get? b = some ob → h'.get? b = some ob) → Q () ⟨h', g, d, tk', os⟩) :
    wpAny (model prog w) A (setAttr (.ref x) name v) Q E ⟨h, g, d, t, os⟩ := by
  have f3 := SF.slot.bind (.ref x)
  unfold setAttr callSpecial? specialOf
  repeat (any_goals (first | assumption | (with_reducible refine wpAny_loadPart_at hx ?_; rw [hc]) | (with_reducible refine wpAny_typeLookup_exc hC hn SF.mro SF.slot.lookup ?_; rw [hns]) | wp_step))
  refine codeAny_call_builtin SF.slot.plain SF.entry (wpAny_check_sa SF hC hx hc ?_)
  have hpass := SF.passes (.ref x)
  unfold Builtin.«object.__setattr__»
  repeat (first | rw [refuse_eq] | (rw [refuseLoop_ref, hpass]) | (with_reducible refine wpAny_loadPart_at hx ?_; rw [hc]) | with_reducible refine wpAny_mroOf_exc hC ?_ | (with_reducible refine wpAny_typeLookup_exc hC hn SF.mro hB ?_; rw [hna]) | wp_step)
  rw [hdn, if_neg (by simp [typeHasDict])]
  split
  · rename_i hcd
    cases hcd
  split
  · rename_i c hcd
    exact absurd hcd (hnc c)
  obtain ⟨n0, sx, so⟩ := after_dict hx rfl
  refine wpAny_bind (wpAny_alloc' (wpAny_bind (wpAny_update' (Heap.get?_push_of_some _ hx) (wpAny_pure ?_))))
  show wpAny _ _ (storeInDict h.objs.size (.str name _) name v) _ _ _
  unfold storeInDict newKeyGuard
  refine wpAny_bind (wpAny_pure (wpAny_bind (wpAny_nsSet1 (Heap.Ns1.of_empty n0) fun h' hn' hs => ?_)))
  obtain ⟨oD, _, _, hoD, hdD, hcD⟩ := hn'.count (Within.cons name v Within.nil)
  have few : [name].length ≤ sizeLine + 1 := Nat.le_add_left 1 sizeLine
  refine wpAny_bind (wpAny_lookBehind hoD (by rw [hdD]; exact pastItsLine_dict (Nat.le_trans hcD few)) ?_)
  wp_walk
  exact hq h' _ ((hs.2 x (Nat.ne_of_lt (Heap.lt_size hx))).trans sx) hn' fun b ob hbx hb => (hs.2 b (Nat.ne_of_lt (Heap.lt_size hb))).trans (so b ob hbx hb)
end

end Rz
section Rz2
open PySem PySem.W PyProof.Rows PySem.Spec PySem.Calls
theorem ns_K {K : Frag} {h : Heap} {N : Addr} (X : K.In h) (e : nsOkIn K N = true) : h.Ns N (h.nsMap N) := .of_isNs (isNs_of_in X e)
theorem ns_some {K : Frag} {h : Heap} {N : Addr} {mg : Str → Option Value} {n : Str} {v : Value} (X : K.In h) (G : h.Ns N mg) (e : nsIn K N n = some (some v)) : mg n = some v := by
  obtain ⟨o, es, ep, ho, hd, _, hf⟩ := G
  unfold nsIn at e
  split at e
  · rename_i q
    have := X _ _ q
    rw [ho] at this
    cases this
    cases hd
    split at e
    · rename_i he
      cases e
      rw [← hf]
      unfold nsFind findBy
      rw [← Array.find?_toList, he]
      rfl
    · split at e <;> cases e
  · cases e
theorem isFn_ob {K : Frag} {f : Addr} (e : (K.lookup f).map (·.cls) = some (.type "function")) : ∃ o, K.lookup f = some o ∧ o.cls = .type "function" := by
  cases h : K.lookup f with
  | none => rw [h] at e; cases e
  | some o => rw [h] at e; exact ⟨o, rfl, Option.some.inj e⟩
theorem made_fr {h₀ h h' : Heap} {L e : Addr} {m : Str → Option Value} {cls : Value} {args : List Value} {news : List (Addr × Obj)} (F : Fr h₀ L h m) (N : News h₀ L h news) (x : Heap.MadeExcOf h h' e cls args) :
    ∃ t, Fr h₀ L h' m ∧ News h₀ L h' ((e, { cls := cls, data := .fields #[.ref t, .none, .none, .none, .bool false, .none] }) :: news) ∧ (∀ q ∈ news, q.1 ≠ e) := by
  obtain ⟨t, ht, _, _⟩ := x.there
  have hne : ∀ {b o}, h.get? b = some o → b ≠ e := fun hb q => by rw [q, x.new] at hb; cases hb
  have hL : L ≠ e := by obtain ⟨o, _, _, ho, _⟩ := F.ns; exact hne ho
  refine ⟨t, F.keeps x.keeps, fun q hq => ?_, fun q hq => hne (N q hq).1⟩
  rcases List.mem_cons.mp hq with rfl | hq
  · exact ⟨ht, hL.symm, fresh_of_stays F.keep x.new⟩
  · exact ⟨x.keeps _ _ (N q hq).1, (N q hq).2⟩
section
variable {prog : Program} {w : World} {A : Around} {E : Value → Shared → Prop} {s : Shared} {g : Heap} {L e : Addr} {m : Str → Option Value} {K : Frag} {a0 v : Value} {t0 : Addr}
abbrev excOb (a0 : Value) (dd : Option Addr) : Obj := { cls := .ref 46, dict := dd, data := .fields #[a0, .none, .none, .none, .bool false, .none] }
abbrev paperCls : Obj := excClassObj (Str.ofString "PaperError") (Str.ofString "PaperError") 46 45 [.type "Exception"] [.type "Exception", .type "BaseException", .type "object"] true [] [] false none none (some (Value.ref 22)) none (some (Value.str (Str.ofString "PaperError") 196)) (some (Value.str (Str.ofString "PaperError") 204)) (some (.bool true)) "Exception.__new__"
theorem exc_init {Q : Value → Shared → Prop} (hC : g.get? 46 = some paperCls) (F : Fr g L s.heap m) (N : News g L s.heap [(e, excOb (.ref t0) none)])
    (hq : ∀ a1 h', Fr g L h' m → News g L h' [(e, excOb a1 none)] → Q .none { s with heap := h' }) :
    wpAny (model prog w) A (call (.builtin "Exception.__init__") [.ref e, v]) Q E s := by
  obtain ⟨h, gg, dd, tk, os⟩ := s
  have he := (N _ (.head _)).1
  have hC' := F.keep _ _ hC
  have hL : L ≠ e := (N _ (.head _)).2.1.symm
  refine wpAny_call (codeAny_call_builtin PySem.F.excBase_Exception.init.plain PySem.F.excBase_Exception.initEntry (wpAny_check_init_sub PySem.F.excBase_Exception hC' he rfl ?_))
  dsimp only at he hC' F
  wp_walk
  have hes : e ≠ h.objs.size := Nat.ne_of_lt (Heap.lt_size he)
  have keep : ∀ b o, b ≠ e → h.get? b = some o → ((h.push { cls := Value.type "tuple", data := Data.seq #[v] }).update e (Obj.mapFields fun x => x.setIfInBounds 0 (Value.ref h.objs.size))).get? b = some o := fun b o hb hbo => by
    rw [Heap.get?_update_other _ _ hb.symm]; exact Heap.get?_push_of_some _ hbo
  refine hq (.ref h.objs.size) _ ⟨?_, fun b o hb => keep b o (fun q => by rw [q, (N _ (.head _)).2.2] at hb; cases hb) (F.keep b o hb), F.above⟩ fun q hq => ?_
  · obtain ⟨o, es, ep, ho, r⟩ := F.ns
    exact ⟨o, es, ep, keep L o hL ho, r⟩
  · obtain rfl := List.mem_singleton.mp hq
    refine ⟨?_, (N _ (.head _)).2⟩
    rw [Heap.get?_update_self _ (Heap.get?_push_of_some _ he) rfl]
    rfl
structure ExDict (g : Heap) (L : Addr) (h : Heap) (e d : Addr) (name : Str) (v : Value) : Prop where
  ns : h.Ns1 d (fun y => if y = name then some v else none)
  dL : d ≠ L
  new : g.get? d = none
  de : d ≠ e
theorem exc_st1 {Q : Unit → Shared → Prop} {name : Str} (X : K.In g) (hc : K.lookup 46 = some paperCls) (hok : nsOkIn K 45 = true) (hns : nsIn K 45 "__setattr__" = some none) (hna : nsIn K 45 name = some none) (hB : typeLookup (.type "Exception") name = pure none)
    (F : Fr g L s.heap m) (N : News g L s.heap [(e, excOb a0 none)])
    (hq : ∀ d h' tk, Fr g L h' m → News g L h' [(e, excOb a0 (some d))] → ExDict g L h' e d name v → Q () { s with heap := h', toks := tk }) :
    wpAny (model prog w) A (setAttr (.ref e) name v) Q E s := by
  obtain ⟨h, gg, dd, tk, os⟩ := s
  have Xh := X.keeps F.keep
  have he := (N _ (.head _)).1
  have hL : L ≠ e := (N _ (.head _)).2.1.symm
  refine first_store PySem.F.store_Exception (Xh 46 _ hc) (ns_K Xh hok) (nsMap_none_of_in Xh hok hns) (nsMap_none_of_in Xh hok hna) hB he rfl (fun _ q => by cases q) rfl fun h' tk' e' hn hk => ?_
  refine hq h.objs.size h' tk' ⟨?_, fun b o hb => hk b o (fun q => by rw [q, (N _ (.head _)).2.2] at hb; cases hb) (F.keep b o hb), F.above⟩ (fun q hq => ?_) ⟨hn, Nat.ne_of_gt F.ns.lt, Heap.get?_none_of_le (Nat.le_trans F.above (Nat.le_of_lt F.ns.lt)), Nat.ne_of_gt (Heap.lt_size he)⟩
  · obtain ⟨o, es, ep, ho, r⟩ := F.ns
    exact ⟨o, es, ep, hk L o hL ho, r⟩
  · obtain rfl := List.mem_singleton.mp hq
    exact ⟨e', (N _ (.head _)).2⟩
theorem exc_st2 {Q : Unit → Shared → Prop} {name name0 : Str} {v0 : Value} {d : Addr} (X : K.In g) (hc : K.lookup 46 = some paperCls) (hok : nsOkIn K 45 = true) (hns : nsIn K 45 "__setattr__" = some none) (hna : nsIn K 45 name = some none) (hB : typeLookup (.type "Exception") name = pure none)
    (F : Fr g L s.heap m) (N : News g L s.heap [(e, excOb a0 (some d))]) (D : ExDict g L s.heap e d name0 v0)
    (hq : ∀ oe h' tk, oe.cls = .ref 46 → oe.data = .fields #[a0, .none, .none, .none, .bool false, .none] → Fr g L h' m → News g L h' [(e, oe)] → Q () { s with heap := h', toks := tk }) :
    wpAny (model prog w) A (setAttr (.ref e) name v) Q E s := by
  obtain ⟨h, gg, dd, tk, os⟩ := s
  have Xh := X.keeps F.keep
  have he := (N _ (.head _)).1
  have hL : L ≠ e := (N _ (.head _)).2.1.symm
  refine store_attr PySem.F.store_Exception (Xh 46 _ hc) (ns_K Xh hok) (nsMap_none_of_in Xh hok hns) (nsMap_none_of_in Xh hok hna) hB (fun q => by have := (N _ (.head _)).2.2; rw [show e = 46 from q, X 46 _ hc] at this; cases this)
    ⟨_, he, rfl, (fun _ q => by cases q), .inr ⟨d, rfl, D.de, D.ns⟩⟩ (fun h' tk' _ hk hx => ?_) (Within.cons _ _ Within.nil) (by rw [List.length_cons, List.length_nil, sizeLine_eq]; omega)
  have hk' : ∀ b o, b ≠ e → b ≠ d → h.get? b = some o → h'.get? b = some o := fun b o h1 h2 hb => hk b o h1 (fun o₀ dx h0 h3 => by rw [he] at h0; cases h0; cases h3; exact h2) hb
  obtain ⟨o₁, e1, e2, e3, _⟩ := hx _ he
  refine hq o₁ h' tk' e2 e3 ⟨?_, fun b o hb => hk' b o (fun q => by rw [q, (N _ (.head _)).2.2] at hb; cases hb) (fun q => by rw [q, D.new] at hb; cases hb) (F.keep b o hb), F.above⟩ fun q hq => ?_
  · obtain ⟨o, es, ep, ho, r⟩ := F.ns
    exact ⟨o, es, ep, hk' L o hL D.dL.symm ho, r⟩
  · obtain rfl := List.mem_singleton.mp hq
    exact ⟨e1, (N _ (.head _)).2⟩
end
theorem meta_exc : typeOf (.type "Exception") = pure (.type "type") := by kernel_rfl
theorem nl_what : typeLookup (.type "Exception") "what" = pure none := by rw [typeLookup_type, builtinLookup_eq_fast]; kernel_rfl
theorem nl_at : typeLookup (.type "Exception") "at" = pure none := by rw [typeLookup_type, builtinLookup_eq_fast]; kernel_rfl
def lf_14 : Lean.MacroM Tc := `(tactic| (first | (refine' exc_st1 (by assumption) ?a1 ?a2 ?a3 ?a4 ?a5 ?k2 ?k3 ?_; (case k2 => k_asm); (case k3 => k_asm); (case a1 => kernel_rfl); (case a2 => kernel_rfl); (case a3 => kernel_rfl); (case a4 => kernel_rfl); (case a5 => first | exact nl_what | exact nl_at); intro d' h' tk' F' N' D') | (refine' exc_st2 (by assumption) ?a1 ?a2 ?a3 ?a4 ?a5 ?k2 ?k3 (by assumption) ?_; (case k2 => k_asm); (case k3 => k_asm); (case a1 => kernel_rfl); (case a2 => kernel_rfl); (case a3 => kernel_rfl); (case a4 => kernel_rfl); (case a5 => first | exact nl_what | exact nl_at); intro oe' h' tk' c1' c2' F' N')))
local macro_rules | `(tactic| walk_at "setAttr ref") => sq [ys "h", kd [lf_14]]
def lf_15 : Lean.MacroM Tc := `(tactic| (exact (by assumption : Frag.In _ _) 46 _ (by kernel_rfl)))
local macro_rules | `(tactic| walk_at "call builtin:Exception.__init__") => sq [ys "h", kd [rf ``exc_init "k1 k2 k3 _", cs "k1" lf_15, css "k2:k k3:k", ys "w"], ins "a1 h' F' N'"]
def lf_16 : Lean.MacroM Tc := `(tactic| (refine' method_type ?F ?X ?m (by decide +kernel) ?e ?h ?_))
def lf_17 : Lean.MacroM Tc := `(tactic| (exact meta_exc))
def lf_18 : Lean.MacroM Tc := `(tactic| (exact (show findCls _ _ _ _ = some (.val (Value.builtin "Exception.__init__")) from by kernel_rfl)))
def lf_19 : Lean.MacroM Tc := `(tactic| (k_handed))
local macro_rules | `(tactic| walk_at "getMethod type:Exception") => sq [ys "h", lf_16, css "F:k X:k", cs "m" lf_17, cs "e" lf_18, cs "h" lf_19]
set_option maxRecDepth 100000 in
set_option maxHeartbeats 8000000 in
theorem paper_make {w : World} {p : Program} {loose : List Str} {mean : ExcName → Option Value} {mg mb : Str → Option Value} {A : Around} {h₀ : Heap} {L : Addr} {m : Str → Option Value} {s : Shared} {Q E : Value → Shared → Prop} {news : List (Addr × Obj)}
  {msg : Str} {tm : Tok}
  (S : At (pre.heap_1_39 w.params) p loose mean mg mb 3 A h₀ L) (F : Fr h₀ L s.heap m) (N : News h₀ L s.heap news) (hh : A.handled = none)
  (hret : ∀ e oe a0 h' tk', Fr h₀ L h' m → News h₀ L h' ((e, oe) :: news) → (∀ q ∈ news, q.1 ≠ e) → oe.cls = .ref 46 → oe.data = .fields #[a0, .none, .none, .none, .bool false, .none] → Q (.ref e) { s with heap := h', toks := tk' }) :
  wpAny (model PySem.Challenge.rw_pb0473_01.row.prog w) A (call (.ref 46) [.str msg tm]) Q E s := by
  obtain ⟨dp, un, gd, cn, cs, a, ccd, cl, outer, A₀, base, rfl, B, X, T, hk, hd', hu⟩ := S.x
  revert X; k_fill; intro X
  have Xs := X.keeps F.keep
  obtain ⟨o36, hf, hfc⟩ := isFn_ob (K := pre.heap_1_39 w.params) (f := 36) (by kernel_rfl)
  obtain ⟨hp, gg, dd, tk, os⟩ := s
  refine wpAny_call_exc_init (C := 46) (N := 45) (bm := [.type "Exception", .type "BaseException", .type "object"]) (nm := Str.ofString "PaperError") (q := Str.ofString "PaperError") (bs := [.type "Exception"]) (hdct := true) (sn := []) (sub := []) (ab := false) (col := none) (dd := none) (k0 := some (Value.ref 22)) (k1 := none) (k2 := some (Value.str (Str.ofString "PaperError") 196)) (k3 := some (Value.str (Str.ofString "PaperError") 204)) (k5 := some (.bool true)) (fI := 36) PySem.F.excBase_Exception (Xs 46 _ (by kernel_rfl)) (ns_K Xs (by kernel_rfl)) (ns_some Xs (ns_K Xs (by kernel_rfl)) (by kernel_rfl)) (Xs 36 _ hf) hfc ?_
  intro h1 e hm
  obtain ⟨t, F1, N1, hne⟩ := made_fr F N hm
  refine wpAny_call ?_
  k_dflt (refine' code_fs (h₀ := h₀) (act := [(e, { cls := .ref 46, data := .fields #[.ref t, .none, .none, .none, .bool false, .none] })]) (rest := news) ?k1 ?k2 ?k3 ?k4 ?kR ?kd ?k5 ?kA ?kF ?kK ?k6 ?k7 ?k8 ?k9 ?kB ?_ ?c2 ?c3 ?c4 ?c5; (case kA => exact rfl); (case kF => exact rfl); (case kK => assumption); (case k1 => exact B); (case k2 => exact F1); (case k3 => exact X); (case k4 => exact fun q hq => N1 q ((List.mem_singleton.mp hq) ▸ .head _)); (case kR => exact fun q hq => N1 q (.tail _ hq)); (case kd => exact fun q hq hm => hne q hq (List.mem_singleton.mp hm)); (case k5 => exact T); (case k6 => k_is); (case k7 => k_is); (case k8 => show dp + 1 < _; omega); (case k9 => exact binds_K (X.keeps F1.keep) rfl (by k_is) rfl rfl rfl); (case c5 => decide); (case kB => exact locs rfl); (case c2 => exact rfl); (case c3 => exact rfl); (case c4 => exact rfl); k_whole)
  intro g' L' h' F' N' B' X' T' hR hS l1
  refine cleanW ?_; (try dsimp only); k_fold
  k_steps
  all_goals exact hret _ _ _ _ _ (by assumption) (fun q hq => (List.mem_cons.mp hq).elim (fun e => by rw [e]; exact (by assumption : News h₀ L _ [_]) _ (.head _)) ((by assumption : News h₀ L _ news) q)) hne (by assumption) (by assumption)

end Rz2
section Rz3
open PySem PySem.W PyProof.Rows PySem.Spec PySem.Calls
set_option maxRecDepth 100000
theorem fm_cons {env : Env} {outer : List Env} {L b : Addr} (hf : env.frame = some L) (hm : b ∈ (env :: outer).filterMap (·.frame)) : b = L ∨ b ∈ outer.filterMap (·.frame) := by
  rw [List.filterMap_cons, hf] at hm
  rcases List.mem_cons.mp hm with z | z
  · exact .inl z
  · exact .inr z
section
variable {M : Model} {A : Around} {E : Value → Shared → Prop} {s' : Shared} {base g g₂ : Heap} {outer : List Env} {env : Env} {L e : Addr} {m : Str → Option Value} {Q : Unit → Shared → Prop} {news : List (Addr × Obj)} {cls a0 : Value} {oe : Obj} {vs : Array Value}
theorem leave_first (K : Below A base outer g) (hf : env.frame = some L) (hk : env.scope.kind = .function) (F : Fr g L s'.heap m) (N : News g L s'.heap ((e, oe) :: news)) (hne : ∀ q ∈ news, q.1 ≠ e)
    (hc : oe.cls = cls) (hd : oe.data = .fields vs) (h1 : vs[1]? = some .none) (h0 : vs[0]? = some a0)
    (hQ : ∀ h', RaisedSN base g outer e cls news h' → g.UpToSlots h' → Q () { s' with heap := h' }) : wpAny M (A.deeper env) (leaving env (.ref e)) Q E s' := by
  have K' := pushX K F hf hk
  have he := N _ (.head _)
  have ofr : ∀ b ∈ outer.filterMap (·.frame), ∃ o, g.get? b = some o := fun b hb => by
    obtain ⟨_, o, ho, _⟩ := K.frames.mem hb
    exact ⟨o, ho⟩
  have hin : ∀ env' ∈ (env :: outer), ∀ b, env'.frame = some b → b ∈ e :: (env :: outer).filterMap (·.frame) := fun env' he b hb => .tail _ (List.mem_filterMap.mpr ⟨env', he, hb⟩)
  have st : base.StaysIn (hideAll s'.heap (e :: (env :: outer).filterMap (·.frame))) := fun b o q => hideAll_get _ (K'.stays b o q) fun hm => by
    rcases List.mem_cons.mp hm with z | z
    · have := K.stays b o q
      rw [z, he.2.2] at this
      cases this
    · rw [(K'.frames.mem z).1] at q
      cases q
  have sg : ∀ b o, g.get? b = some o → b ∉ outer.filterMap (·.frame) → (hideAll s'.heap (e :: (env :: outer).filterMap (·.frame))).get? b = some o := fun b o q nm => hideAll_get _ (F.keep b o q) fun hm => by
    rcases List.mem_cons.mp hm with z | z
    · rw [z, he.2.2] at q
      cases q
    · rcases fm_cons hf z with z | z
      · rw [z, kts_self F] at q
        cases q
      · exact nm z
  have hl : ∀ q ∈ news, (hideAll s'.heap (e :: (env :: outer).filterMap (·.frame))).get? q.1 = some q.2 ∧ g.get? q.1 = none ∧ base.get? q.1 = none := fun q hq => by
    have n := N q (.tail _ hq)
    refine ⟨hideAll_get _ n.1 fun hm => ?_, n.2.2, fresh_of_stays K.stays n.2.2⟩
    rcases List.mem_cons.mp hm with z | z
    · exact hne q hq z
    · rcases fm_cons hf z with z | z
      · exact n.2.1 z
      · obtain ⟨o, ho⟩ := ofr _ z
        rw [n.2.2] at ho
        cases ho
  subst hc
  refine wpAny_leaving_firstW (a0 := a0) K'.stack (funFrames_hide K'.frames hin) hf he.1 (fun b o hb => of_hideAll _ hb) (hideAll_none _ (.head _)) hd h1 h0 fun h' hL => ?_
  obtain ⟨k1, ⟨_, _, k2⟩, k3, k4⟩ := hL
  exact hQ h' ⟨_, a0, st, sg, hl, k1, hideAll_none _ (.head _), k2, k3⟩ ((Heap.UpToSlots.of_keeps F.keep).trans k4)
theorem leave_next (K : Below A base outer g) (hf : env.frame = some L) (F : Fr g L g₂ m) (N : News g L g₂ news) (R : RaisedSN base g₂ (env :: outer) e cls [] s'.heap) (hsm : g₂.UpToSlots s'.heap)
    (hQ : ∀ h', RaisedSN base g outer e cls news h' → g.UpToSlots h' → Q () { s' with heap := h' }) : wpAny M (A.deeper env) (leaving env (.ref e)) Q E s' := by
  obtain ⟨B, a0, hB, hBG, _, hfl⟩ := R
  have nf : ∀ b, b ≠ L → b ∉ outer.filterMap (·.frame) → b ∉ (env :: outer).filterMap (·.frame) := fun b h1 h2 hm => (fm_cons hf hm).elim h1 h2
  refine wpAny_leaves_onW (Around.frames_deeper K.stack) hf hfl fun h' x1 x2 => hQ h' ⟨B, a0, hB, fun b o q nm => hBG b o (F.keep b o q) (nf b (fun z => by rw [z, kts_self F] at q; cases q) nm), fun q hq => ?_, x1⟩ ((Heap.UpToSlots.of_keeps F.keep).trans (hsm.trans x2))
  have n := N q hq
  refine ⟨hBG _ _ n.1 (nf _ n.2.1 fun z => ?_), n.2.2, fresh_of_stays K.stays n.2.2⟩
  obtain ⟨_, o, ho, _⟩ := K.frames.mem z
  rw [n.2.2] at ho
  cases ho
end
section
variable {prog : Program} {w : World} {A₀ : Around} {E : Value → Shared → Prop} {s' : Shared} {base g G : Heap} {outer : List Env} {L a e : Addr} {m : Str → Option Value} {name : Str} {scope : Scope} {cd : Value}
  {b₀ : Stmt} {suite : List Stmt} {pos np : Pos} {rest : List ExceptHandler} {Q : Flow → Shared → Prop} {news : List (Addr × Obj)} {KF : Frag}
  {p : Program} {loose : List Str} {mean : ExcName → Option Value} {mg mb : Str → Option Value} {x : Str}
theorem caught (R : RaisedSN base G (envOf name scope L a cd :: outer) e (.ref 46) news s'.heap) (F : Fr g L G m) (K : Below A₀ base outer g) (hsm : G.UpToSlots s'.heap) (XB : KF.In base) (TB : Top p loose mean mg mb base)
    (ex : nsIn KF mainGlobals x = some (some (.ref 46))) (hc : KF.lookup 46 = some paperCls)
    (k : ∀ h' g', KtsTurn (outer.filterMap (·.frame)) g g' → Fr g' L h' m → News g' L h' news → KF.In g' →
      wpAny (model prog w) ((A₀.deeper (envOf name scope L a cd)).mark (some (.ref e))) (execs (b₀ :: suite) (envOf name scope L a cd)) Q E { s' with heap := h' })
    (hk : scope.kind = .function := by rfl) (hx : (envOf name scope L a cd).kindOf x = some .globalImplicit := by rfl) (hd : (x == ("__debug__" : Str)) = false := by decide)
    (hE : PassesOwnAt (model prog w) ((A₀.deeper (envOf name scope L a cd)).mark (some (.ref e))) (A₀.deeper (envOf name scope L a cd)) (envOf name scope L a cd) E := by passes_own) :
    wpAny (model prog w) (A₀.deeper (envOf name scope L a cd)) (noteFrame (.ref e) (envOf name scope L a cd))
      (fun _ s₂ => wpAny (model prog w) (A₀.deeper (envOf name scope L a cd)) (setFlight (.ref e) none) (fun _ s₃ =>
        wpAny (model prog w) (A₀.deeper (envOf name scope L a cd)) (handleBy (.ref e) (envOf name scope L a cd) (.ExceptHandler (some (.Name x np)) none (b₀ :: suite) pos :: rest)) Q E s₃) E s₂) E s' := by
  obtain ⟨B, a0, hB, hBG, hl, hfl⟩ := R
  have hL : B.get? L = none := by
    obtain ⟨_, ⟨L', _, hf, hn', _⟩, _⟩ := hfl.2.2.1
    obtain rfl : L = L' := Option.some.inj hf
    exact hn'
  refine wpAny_looks_onW (Around.frames_deeper K.stack) rfl hfl fun h₄ hheld₄ hsm₄ => ?_
  refine wpAny_landsW hheld₄ fun h₅ hheld hsm₅' => ?_
  have hsm₅ := hsm₄.trans hsm₅'
  obtain ⟨g₅, _, F₅, K₅⟩ := kts_ground K F hBG hheld.1 (hsm.trans hsm₅)
  have X₅ : KF.In g₅ := XB.keeps K₅.stays
  have P₅ : TopRead p loose mg mb g₅ := topRead_of (TB.keeps K₅.stays)
  obtain ⟨ob, hob, hobc⟩ := hheld.there
  have hC₅ := F₅.keep _ _ (X₅ 46 _ hc)
  refine wpAny_handleBy_cons (codeAny_handlers_test (name_K F₅ X₅ P₅ ex ?_ hk hx hd)) (by intro q; cases q)
  refine wpAny_excMatches_sub_self hC₅ hob hobc (by decide) (codeAny_handlers_suite ?_)
  refine lands_againW hheld fun h₆ hfl₆ hsm₆ => ?_
  obtain ⟨g₆, T₆, F₆, K₆⟩ := kts_ground K F hBG hfl₆.1 ((hsm.trans hsm₅).trans hsm₆)
  exact wpAny_passesOwnAt hE (k h₆ g₆ T₆ F₆ (fun q hq => ⟨hfl₆.1 _ _ (hl q hq).1, (fun z => by have := (hl q hq).1; rw [z, hL] at this; cases this), T₆.none_ _ (kts_none F.keep (hl q hq).2.1)⟩) (XB.keeps K₆.stays))
end
section
variable {prog : Program} {w : World} {A A₀ : Around} {s : Shared} {K : Frag} {L : Addr} {h₀ base : Heap} {m mg mb : Str → Option Value} {act rest : List (Addr × Obj)} {p : Program} {loose : List Str} {mean : ExcName → Option Value}
theorem code_try {env : Env} {R : Result → Shared → Prop} {name qual : Str} {params : Arguments} {body : List Stmt} {scope : Scope} {dV kV doc pm cdv ct oc : Value} {an od : Option Addr} {osl : Array (Option Value)} {f : Addr} {args : Args} {binds : List (Str × Value)}
    (B : Below A₀ base [] h₀) (F : Fr h₀ L s.heap m) (X₀ : K.In h₀) (N : News h₀ L s.heap act) (NR : News h₀ L s.heap rest) (hdis : ∀ q ∈ rest, q.1 ∉ act.map (·.1)) (T : Top p loose mean mg mb h₀) (hA : A.frames = some [env]) (hf : env.frame = some L) (hke : env.scope.kind = .function)
    (ho : K.lookup f = some ⟨oc, od, .func (fnOf name qual params body scope dV kV doc pm an cdv ct), osl⟩) (hcd : codeIn K cdv qual = true) (hroom : A.depth < recursionLimit)
    (hbind : BindsTo s (fnOf name qual params body scope dV kV doc pm an cdv ct) args binds) (hloc : ∀ y ∈ binds, scope.names.lookup y.1 = some .local)
    (h : ∀ g L' h₁, Fr g L' h₁ (fun y => binds.reverse.lookup y) → News g L' h₁ act → Below A base [env] g → K.In g → Top p loose mean mg mb g → (∀ q ∈ rest, g.get? q.1 = some q.2) → (∀ b o, h₀.get? b = some o → g.get? b = some o) →
      wpAny (model prog w) (A.deeper (envOf qual scope L' f cdv)) (execs body (envOf qual scope L' f cdv))
        (fun fl s' => LeaveS0 [L] h₀ L m g (fun r s'' => News h₀ L s''.heap rest → R r s'') (match fl with | .ret v => v | _ => .none) s')
        (fun e s' => wpAny (model prog w) (A.deeper (envOf qual scope L' f cdv)) (leaving (envOf qual scope L' f cdv) e) (fun _ s'' => R (.error e) s'') (fun e' s'' => R (.error e') s'') s')
        { s with heap := h₁, toks := s.toks + binds.length })
    (hco : scope.isCoroutine = false) (hgen : scope.isGenerator = false) (hk : scope.kind = .function)
    (hcell : ∀ x ∈ scope.names, x.2 ≠ .cell) : codeAny (model prog w) A (.call (.ref f) args) R s := by
  obtain ⟨FG, BG, st, _⟩ := groundX (R := R) B F N hA hf hke
  refine codeAny_call_def (fd := fnX name qual params body scope [] dV kV doc pm an cdv ct) (body := body) (binds := binds) hroom ((X₀.keeps F.keep) _ _ ho) rfl (T.nolimit.keeps F.keep) (codeRec_of (X₀.keeps F.keep) hcd) rfl hbind hcell hloc (fun h₁ hns hk₁ => ?_) hco hgen hk
  have hr : ∀ q ∈ rest, (hideAll s.heap (act.map (·.1))).get? q.1 = some q.2 := fun q hq => hideAll_get _ (NR q hq).1 (hdis q hq)
  refine wpAny_mono (h _ s.heap.objs.size h₁ ⟨hns, fun b o e => hk₁ b o (of_hideAll _ e), Nat.le_of_eq (hideAll_size _ _)⟩
    (fun q hq => ⟨hk₁ _ _ (N q hq).1, Nat.ne_of_lt (Heap.lt_size (N q hq).1), hideAll_none _ (List.mem_map_of_mem hq)⟩) BG (X₀.keeps st) (T.keeps st) hr st) (fun fl s' hl => ?_) fun _ _ y => y
  obtain ⟨g', L', m', news', T', F', N', k⟩ := hl
  obtain ⟨oL, es, ep, hLg, hLd, hLk, hLf⟩ := FG.ns
  have nL₀ : h₀.get? L = none := kts_self F
  obtain ⟨sl, hs⟩ := T'.up hLg
  refine k ⟨⟨_, es, ep, F'.keep _ _ hs, hLd, hLk, hLf⟩, fun b o e => F'.keep b o (T'.other b o (st b o e) (fun q => by
    rw [List.mem_singleton.mp q, nL₀] at e
    cases e)), F.above⟩ (fun p hp => ⟨(N' p hp).1, fun q => ?_, ?_⟩) fun q hq => ⟨F'.keep _ _ (T'.other _ _ (hr q hq) (fun z => (NR q hq).2.1 (List.mem_singleton.mp z))), (NR q hq).2⟩
  · have := (N' p hp).2.2; rw [q, hs] at this; cases this
  · cases q : h₀.get? p.1 with
    | none => rfl
    | some o =>
      obtain ⟨sl', hs'⟩ := T'.up (st _ _ q)
      have := (N' p hp).2.2
      rw [hs'] at this
      cases this
end

end Rz3
section Rz4
open PySem PySem.W PyProof.Rows PySem.Spec PySem.Calls
set_option maxRecDepth 100000
structure AtX (K : Frag) (p : Program) (loose : List Str) (mean : ExcName → Option Value) (mg mb : Str → Option Value) (n : Nat) (A : Around) (base : Heap) (fr : List Env) (h₀ : Heap) (L : Addr) : Prop where
  x : ∃ (dp un : Nat) (gd : Option (List Code)) (cn : Str) (cs : Scope) (a : Addr) (ccd : Value) (cl : List (Str × Addr)) (outer : List Env) (A₀ : Around),
    A = ktrTop dp un gd cn cs L a ccd cl outer ∧ fr = envX cn cs L a ccd cl :: outer ∧ Below A₀ base outer h₀ ∧ K.In h₀ ∧ Top p loose mean mg mb h₀ ∧ cs.kind = .function ∧ dp + n < recursionLimit ∧ un + 8 * n + 100 < cLine
theorem AtX.mk' {K : Frag} {p : Program} {loose : List Str} {mean : ExcName → Option Value} {mg mb : Str → Option Value} {n dp un : Nat} {gd : Option (List Code)} {cn : Str} {cs : Scope} {a L : Addr} {ccd : Value} {cl : List (Str × Addr)} {outer : List Env} {A₀ : Around} {base h₀ : Heap}
  (B : Below A₀ base outer h₀) (X : K.In h₀) (T : Top p loose mean mg mb h₀) (hk : cs.kind = .function) (hd : dp + n < recursionLimit) (hu : un + 8 * n + 100 < cLine) : AtX K p loose mean mg mb n (ktrTop dp un gd cn cs L a ccd cl outer) base (envX cn cs L a ccd cl :: outer) h₀ L := ⟨dp, un, gd, cn, cs, a, ccd, cl, outer, A₀, rfl, rfl, B, X, T, hk, hd, hu⟩
def Made (E : Value → Shared → Prop) (v : Value) (s : Shared) : Prop := ∃ e oe a0, v = .ref e ∧ s.heap.get? 46 = some paperCls ∧ s.heap.get? e = some oe ∧ oe.cls = .ref 46 ∧ oe.data = .fields #[a0, .none, .none, .none, .bool false, .none] ∧ E (.ref e) s
theorem made_end {M : Model} {A : Around} {E1 : Value → Shared → Prop} {E2 : Value → Value → Shared → Prop} {s : Shared} {K : Frag} {base g : Heap} {outer : List Env} {env : Env} {L e : Addr} {m : Str → Option Value} {news : List (Addr × Obj)} {oe : Obj} {a0 : Value}
    (X : K.In g) (hc : K.lookup 46 = some paperCls) (B : Below A base outer g) (hf : env.frame = some L) (hk : env.scope.kind = .function) (F : Fr g L s.heap m) (N : News g L s.heap ((e, oe) :: news)) (c1 : oe.cls = .ref 46) (c2 : oe.data = .fields #[a0, .none, .none, .none, .bool false, .none])
    (h : ∀ h', RaisedSN base g outer e (.ref 46) [] h' → g.UpToSlots h' → E1 (.ref e) { s with heap := h' }) :
    Made (fun e s' => wpAny M (A.deeper env) (leaving env e) (fun _ s'' => E1 e s'') (fun e' s'' => E2 e e' s'') s') (.ref e) s :=
  ⟨e, oe, a0, rfl, F.keep _ _ (X 46 _ hc), (N _ (.head _)).1, c1, c2, leave_first (news := []) B hf hk F (fun q hq => by rw [List.mem_singleton.mp hq]; exact N _ (.head _)) (fun _ h => nomatch h) c1 c2 rfl rfl h⟩
theorem Raise_ev {M : Model} {A : Around} {E : Value → Shared → Prop} {s : Shared} {env : Env} {ex : Expr} {pos : Pos} {Q : Flow → Shared → Prop} (hh : A.handled = none) (h : wpAny M A (eval ex env) (Made E) E s) :
    wpAny M A (exec (.Raise (some ex) none pos) env) Q E s := by
  rw [arm_exec_Raise]
  simp only [evalOpt, Option.map]
  refine wpAny_bind (wpAny_standAt ?_)
  unfold raiseStmt
  refine wpAny_bind (wpAny_mono (wpAny_bind (wpAny_mono h (fun v s₃ h₃ => wpAny_bind (wpAny_standAt (wpAny_pure h₃))) fun _ _ x => x)) (fun v s₁ h₁ => ?_) fun _ _ x => x)
  obtain ⟨e, oe, a0, rfl, hC, he, hc, hd, hE⟩ := h₁
  obtain ⟨oc, od, odt, osl⟩ := oe
  dsimp only at hc hd
  subst hc hd
  obtain ⟨hp, g, d, tk, os⟩ := s₁
  repeat (first | with_reducible refine wpAny_loadPart_at he ?_ | with_reducible refine wpAny_loadPart_at hC ?_ | (with_reducible refine wpAny_isSubtype_exc hC ?_; rw [show (Value.ref 46 :: [Value.type "Exception", .type "BaseException", .type "object"]).contains (.type "BaseException") = true from by decide]) | wp_step)
  exact wpAny_raiseNew_none hh hE

end Rz4
section MacX
open PySem PySem.W PyProof.Rows
def yX : Lean.MacroM Tc := sq [rf ``AtX.mk' "q1 q2 q3 q4 q5 q6", css "q1:k q2:k q3:k q4:er", cs "q5" `(tactic| first | exact Nat.le_of_ble_eq_true rfl | ktr_room), cs "q6" `(tactic| first | exact Nat.le_of_ble_eq_true rfl | ktr_units)]

end MacX
section Fn2
open PySem PySem.W PyProof.Rows PySem.Spec PySem.Calls PyProof.Rows.LCg
def fval (x : Str) : Option Int := (FL.find? fun q => decide (q.x = x)).map FP.b
def fstep (f : Int) (x : Str) : Option Int := (fval x).map fun b => Builtin.bitOr f b
def fnum (ws : List Str) : Option Int := ws.foldlM fstep 0
def fnJ (ws : List Str) (i : Nat) (m : Str → Option Value) : Prop := ∃ f t, m (Str.ofString "found") = some (.int f t) ∧ (ws.take i).foldlM fstep 0 = some f
theorem iter_fn {prog : Program} {w : World} {A : Around} {E : Value → Shared → Prop} {s : Shared} {h₀ : Heap} {env : Env} {x : Str} {body : List Stmt} {Q : Flow → Shared → Prop} {l : Addr} {vs : List Value} {ws : List Str} {m₀ : Str → Option Value} {t₀ : Tok}
    (hh : A.handled = none) (hl : h₀.IsList l vs.toArray) (hi : StrsAre vs ws) (F : Fr h₀ env.locals s.heap m₀) (hj : m₀ (Str.ofString "found") = some (.int 0 t₀))
    (turn : ∀ (i : Nat) (y : Str) (t : Tok) (f : Int) (tf : Tok) (m₁ : Str → Option Value) (h : Heap) (tk : Nat) own, ws[i]? = some y → (ws.take i).foldlM fstep 0 = some f → m₁ (Str.ofString "found") = some (.int f tf) → Fr h₀ env.locals h (fun z => if z = x then some (.str y t) else m₁ z) → News h₀ env.locals h own →
      wpAny (model prog w) A (execs body env) (IterPost h₀ env.locals (fnJ ws (i + 1)) own { s with heap := h, toks := tk } Q) E { s with heap := h, toks := tk })
    (done : ∀ (f : Int) (t : Tok) (m₁ : Str → Option Value) (h : Heap) (tk : Nat), fnum ws = some f → m₁ (Str.ofString "found") = some (.int f t) → Fr h₀ env.locals h m₁ → News h₀ env.locals h [] → Q .next { s with heap := h, toks := tk }) :
    wpAny (model prog w) A (pyIter (.ref l)) (fun it s₂ => LoopAtV prog w A h₀ env x body Q E it s₂) E s :=
  iter_str (fnJ ws) hh hl hi F ⟨0, t₀, hj, rfl⟩ (fun i y t m₁ h tk own hy ⟨f, tf, a, b⟩ => turn i y t f tf m₁ h tk own hy b a) fun m₁ h tk ⟨f, t, a, b⟩ => fun F => done f t m₁ h tk (by rw [List.take_length] at b; exact b) a F News.nil
theorem for_fr {prog : Program} {w : World} {A : Around} {E : Value → Shared → Prop} {s : Shared} {h₀ : Heap} {L : Addr} {m : Str → Option Value} {env : Env} {Q : Flow → Shared → Prop} {x : Str} {px pos : Pos} {iter : Expr} {body : List Stmt} (_F : Fr h₀ L s.heap m) (hx : env.kindOf x = some .local)
    (hp : (env.scope.kind == .class || (env.scope.kind == .module && env.locals != env.globals)) = false)
    (h : wpAny (model prog w) A (eval iter env) (fun xv s₁ => wpAny (model prog w) A (pyIter xv) (fun it s₂ => LoopAtV prog w A h₀ env x body Q E it s₂) E s₁) E s)
    (hs : ∀ x, foldedSetIterable iter env x = pure x) (hE : PassesOwn (model prog w) A env E) :
    wpAny (model prog w) A (exec (.For (.Name x px) iter body [] pos) env) Q E s := For_invV h₀ hx hp h hs hE
def lf_20 : Lean.MacroM Tc := `(tactic| (with_reducible show wpAny _ _ (exec (Stmt.For (Expr.Name (Str.ofString "word") _) _ _ _ _) _) _ _ _))
def lf_21 : Lean.MacroM Tc := `(tactic| (refine for_fr (by k_asm) (by rfl) (by rfl) ?_ (by intro _; rfl) (by passes_own)))
local macro_rules | `(tactic| walk_at "exec For Name Name") => sq [ys "h", lf_20, kd [lf_21]]
def lf_22 : Lean.MacroM Tc := `(tactic| (with_reducible show wpAny _ _ (pyIter (Value.ref _)) (fun it s₂ => LoopAtV _ _ _ _ _ _ _ _ _ it s₂) _ _))
def lf_23 : Lean.MacroM Tc := `(tactic| (refine iter_fn (by rfl) (by assumption) (by assumption) (by k_asm) (by rfl) ?_ ?_))
def lf_24 : Lean.MacroM Tc := `(tactic| (all_goals (intros; refine cleanW ?_)))
local macro_rules | `(tactic| walk_at "pyIter ref") => sq [ys "h", lf_22, kd [lf_23], lf_24]
def FD : List (PyData × PyData) := FL.map fun q => (PyData.str q.x, PyData.int q.b)
theorem flat_map : ∀ ps : List FP, PyProof.V.FlatPairs PyData.str (ps.map fun q => (q.x, Value.int q.b q.u)) (ps.map fun q => (PyData.str q.x, PyData.int q.b))
  | [] => .nil
  | q :: r => .cons (.int _ _) (flat_map r)
theorem fd_is : fdict FL = FL.map fun q => (q.x, Value.int q.b q.u) := by decide +kernel
theorem fd_flat : PyProof.V.FlatPairs PyData.str (fdict FL) FD := by rw [fd_is]; exact flat_map FL
theorem flT {w : World} {h : Heap} (X : (pre.heap_1_39 w.params).In h) : h.get? 145 = some { cls := .type "tuple", dict := none, data := .seq (FL.map fun q => Value.ref q.ad).toArray 0, slots := #[] } := X 145 _ (by kernel_rfl)
theorem lk_eq (y : Str) : ∀ ps : List FP, PySem.Spec.lookup (PyData.str y) (ps.map fun q => (PyData.str q.x, PyData.int q.b)) = (ps.find? fun q => decide (q.x = y)).map fun q => PyData.int q.b
  | [] => rfl
  | q :: r => by
    have ih := lk_eq y r
    rw [List.map_cons, List.find?_cons]
    show (if PySem.Spec.same (PyData.str q.x) (PyData.str y) = true then some (PyData.int q.b) else PySem.Spec.lookup (PyData.str y) (r.map fun q : FP => (PyData.str q.x, PyData.int q.b))) = _
    have e : PySem.Spec.same (PyData.str q.x) (PyData.str y) = decide (q.x = y) := Bool.eq_iff_iff.mpr (by simp [PySem.Spec.same])
    rw [e]
    cases decide (q.x = y)
    · simpa using ih
    · rfl
theorem lk_val {y : Str} (h : (PySem.Spec.lookup (PyData.str y) FD).isSome = true) : ∃ b, PySem.Spec.lookup (PyData.str y) FD = some (.int b) ∧ fval y = some b := by
  unfold FD at h ⊢
  rw [lk_eq] at h ⊢
  unfold fval
  cases e : FL.find? fun q => decide (q.x = y) with
  | none => rw [e] at h; cases h
  | some q => exact ⟨q.b, rfl, rfl⟩
theorem fd_item {prog : Program} {w : World} {A : Around} {E : Value → Shared → Prop} {s : Shared} {d : Addr} {y : Str} {t : Tok} {Q : Value → Shared → Prop} (T : StrTab prog w s.heap d FD) (hl : (PySem.Spec.lookup (PyData.str y) FD).isSome = true)
    (h : ∀ b u, fval y = some b → Q (.int b u) { s with toks := s.toks + 1 }) :
    wpAny (model prog w) A (getItem (.ref d) (.str y t)) Q E s := by
  obtain ⟨b, e, hb⟩ := lk_val hl
  refine getItem_tab PyProof.V.same_str (strKind_is _ _ _ _) T e (fun v hv => ?_)
  have hv' := hv s.heap
  cases hv'
  exact h b _ hb
local macro_rules | `(tactic| walk_at "getItem ref str") => `(tactic| (k_here; k_dflt (refine' fd_item ?kT (by assumption) ?_; (case kT => k_tabat); k_whole); intro b' u' hb'))
theorem fold_succ {ws : List Str} {i : Nat} {y : Str} {f b : Int} (hy : ws[i]? = some y) (hf : (ws.take i).foldlM fstep 0 = some f) (hb : fval y = some b) : (ws.take (i + 1)).foldlM fstep 0 = some (Builtin.bitOr f b) := by
  rw [List.take_add_one, hy]
  simp only [Option.toList_some, List.foldlM_append, hf]
  simp [fstep, hb]
theorem fn_end {h₀ h : Heap} {L : Addr} {m : Str → Option Value} {ws : List Str} {own : List (Addr × Obj)} {i tk : Nat} {y : Str} {f b : Int} {t : Tok} {s₁ : Shared} {Q : Flow → Shared → Prop} {q r : Addr × Obj} (F : Fr h₀ L h m) (N : News h₀ L h (q :: r :: own)) (hm : m (Str.ofString "found") = some (.int (Builtin.bitOr f b) t))
    (hy : ws[i]? = some y) (hf : (ws.take i).foldlM fstep 0 = some f) (hb : fval y = some b) : IterPost h₀ L (fnJ ws (i + 1)) own s₁ Q .next { s₁ with heap := h, toks := tk } :=
  ⟨h, tk, m, rfl, F, fun p hp => N p (.tail _ (.tail _ hp)), _, t, hm, fold_succ hy hf hb⟩
theorem add_msg {prog : Program} {w : World} {A : Around} {E : Value → Shared → Prop} {s : Shared} {ws : List Str} {i : Nat} {y : Str} {t u : Tok} {Q : Value → Shared → Prop} (hsz : ∀ x ∈ ws, x.length ≤ 30) (hy : ws[i]? = some y) (h : ∀ t' tk, Q (.str (Str.ofString "no flag of annotations: " ++ y) t') { s with toks := tk }) :
    wpAny (model prog w) A (binaryOp .Add (.str (Str.ofString "no flag of annotations: ") t) (.str y u)) Q E s :=
  add_str h (hsz := by
    have h1 := hsz y (List.mem_of_getElem? hy)
    have h2 : (Str.ofString "no flag of annotations: ").length = 24 := by decide +kernel
    rw [sizeLine_eq, h2]; omega)
theorem foldlM_some {ws : List Str} : ∀ {i : Nat} {f g : Int} {y : Str}, ws.foldlM fstep f = some g → ws[i]? = some y → (fval y).isSome = true := by
  induction ws with
  | nil => intro i f g y _ h; cases i <;> cases h
  | cons x r ih =>
    intro i f g y h hy
    simp only [List.foldlM_cons] at h
    cases hx : fval x with
    | none => simp [fstep, hx] at h
    | some b =>
      cases i with
      | zero => obtain rfl : x = y := by simpa using hy
                rw [hx]; rfl
      | succ i => exact ih (by simpa [fstep, hx] using h) (by simpa using hy)
theorem lk_fval (y : Str) : (PySem.Spec.lookup (PyData.str y) FD).isSome = (fval y).isSome := by
  unfold FD fval; rw [lk_eq]; cases FL.find? fun q => decide (q.x = y) <;> rfl
theorem no_raise {ws : List Str} {i : Nat} {g : Int} {y : Str} (h : fnum ws = some g) (hy : ws[i]? = some y) (hn : (PySem.Spec.lookup (PyData.str y) FD).isSome = false) : False := by
  rw [lk_fval, foldlM_some h hy] at hn; cases hn
theorem fnum_none {ws : List Str} {i : Nat} {y : Str} (hy : ws[i]? = some y) (hn : (PySem.Spec.lookup (PyData.str y) FD).isSome = false) : fnum ws = none := by
  cases h : fnum ws with
  | none => rfl
  | some g => exact (no_raise h hy hn).elim
local macro_rules | `(tactic| walk_at "exec Raise some none") => `(tactic| (refine Raise_ev rfl ?_))
local macro_rules | `(tactic| walk_at "call ref") => sq [shw 46 "_", kd [rf ``paper_make "kS kF kN kh _", css "kS:at kF:k kN:k kh:r"], ins "e' oe' a0' h' tk' F' N' ne' c1' c2'"]
def lf_25 : Lean.MacroM Tc := `(tactic| (with_reducible show wpAny _ _ (binaryOp _ (Value.str _ _) (Value.str _ _)) _ _ _))
def lf_26 : Lean.MacroM Tc := `(tactic| (refine add_msg (by assumption) (by assumption) ?_))
local macro_rules | `(tactic| walk_at "binaryOp Add") => sq [ys "h", lf_25, kd [lf_26], ins "t9 tk9"]
def lf_27 : Lean.MacroM Tc := `(tactic| (with_reducible show wpAny _ _ (call (Value.type "dict") [Value.ref 145]) _ _ _))
def lf_28 : Lean.MacroM Tc := `(tactic| (refine' dict_pairs (ps := FL) ?kF ?kN ?kb ?kT ?kps ?kh ?ksz ?_))
def lf_29 : Lean.MacroM Tc := `(tactic| (exact PyProof.Rows.modules_low (Top.nolimit (by k_asm))))
def lf_30 : Lean.MacroM Tc := `(tactic| (exact flT (by assumption)))
def lf_31 : Lean.MacroM Tc := `(tactic| (have hf' := fd_flat))
local macro_rules | `(tactic| walk_at "call type:dict") => sq [ys "h", lf_27, kd [lf_28, css "kF:k kN:k", cs "kb" lf_29, cs "kT" lf_30, cs "kps" lf_4, css "kh:r ksz:d"], ins "D' h' tk' o' F' N' l1 lo' hd'", lf_31, ys "l1"]
def lf_32 : Lean.MacroM Tc := `(tactic| (with_reducible show wpAny _ _ (eval (Expr.Name (Str.ofString "found") _) _) _ _ _))
def lf_33 : Lean.MacroM Tc := `(tactic| (first | rfl | assumption))
local macro_rules | `(tactic| walk_at "eval Name") => sq [ys "h", lf_32, kd [rf ``nameX_L "kF kv _ ka kb", css "kF:k ka:r kb:r", cs "kv" lf_33, ys "w"]]
set_option maxRecDepth 100000 in
set_option maxHeartbeats 8000000 in
theorem fn_c {w : World} {p : Program} {loose : List Str} {mean : ExcName → Option Value} {mg mb : Str → Option Value} {A : Around} {h₀ base : Heap} {fr : List Env} {L : Addr} {m : Str → Option Value} {s : Shared} {Q E : Value → Shared → Prop}
  {l : Addr} {ws : List Str} {vs : List Value} {k : Nat} {news : List (Addr × Obj)} (hW : StrsAre vs ws) (hsz : ∀ x ∈ ws, x.length ≤ 30)
  (S : AtX (pre.heap_1_39 w.params) p loose mean mg mb 8 A base fr h₀ L) (F : Fr h₀ L s.heap m) (N : News h₀ L s.heap news) (hh : A.handled = none) (hl : (l, listOf vs.toArray k) ∈ news)
  (hret : ∀ f t h' tk', fnum ws = some f → Fr h₀ L h' m → News h₀ L h' news → Q (.int f t) { s with heap := h', toks := tk' })
  (hE : ∀ e g₂ h' tk', fnum ws = none → Fr h₀ L g₂ m → News h₀ L g₂ news → RaisedSN base g₂ fr e (.ref 46) [] h' → g₂.UpToSlots h' → E (.ref e) { s with heap := h', toks := tk' }) :
  wpAny (model PySem.Challenge.rw_pb0473_01.row.prog w) A (call (.ref 159) [.ref l]) Q E s := by
  obtain ⟨dp, un, gd, cn, cs, a, ccd, cl, outer, A₀, rfl, rfl, B, X, T, hk, hd', hu⟩ := S.x
  revert X; k_fill; intro X
  refine wpAny_call ?_
  k_dflt (refine' code_fx (act := []) (rest := news) ?k1 ?k2 ?k3 ?k4 ?kR ?kd ?k5 ?kA ?kF ?kK ?k6 ?k7 ?k8 ?k9 ?kB ?_ ?c2 ?c3 ?c4 ?c5; (case kA => exact rfl); (case kF => exact rfl); (case kK => assumption); (case k1 => exact B); (case k2 => exact F); (case k3 => exact X); (case k4 => exact News.nil); (case kR => exact N); (case kd => exact fun _ _ h => nomatch h); (case k5 => exact T); (case k6 => k_is); (case k7 => k_is); (case k8 => exact Nat.lt_of_le_of_lt (Nat.le_add_right _ _) hd'); (case k9 => exact BindsTo.of_eq rfl); (case c5 => decide); (case kB => exact locs rfl); (case c2 => exact rfl); (case c3 => exact rfl); (case c4 => exact rfl); k_whole)
  intro g' L' h' FG F' N' B' X' T' hR _ l1
  have NG : News h₀ L g' news := fun q hq => ⟨hR q hq, (N q hq).2⟩
  clear F N
  have hLl : g'.IsList l vs.toArray := ⟨_, hR _ hl, rfl, _, rfl⟩
  refine cleanW ?_; (try dsimp only); k_fold
  k_steps
  all_goals first
    | exact fn_end (by k_asm) (by k_asm) (by rfl) (by assumption) (by assumption) (by assumption)
    | exact hret _ _ _ _ (by assumption) (by assumption) (by assumption)
    | (refine made_end X' (by kernel_rfl) B' rfl rfl (by assumption) (by assumption) (by assumption) (by assumption) fun h₉ R₉ U₉ => ?_
       exact hE _ _ _ _ (fnum_none (by assumption) (by first | assumption | exact Bool.eq_false_iff.mpr (by assumption))) FG NG R₉ U₉)

end Fn2
section Plain2
open PySem PySem.W PyProof.Rows
def bits : List Int := [1, 2, 4, 8, 16, 32, 64, 128, 256, 512]
theorem num1 : ∀ n : Fin 1024, (bits.filter fun b => Builtin.bitAnd (n.val : Int) b != 0).foldl Builtin.bitOr 0 = (n.val : Int) := by decide +kernel
theorem num2 : ∀ n : Fin 1024, (bits.filter fun b => Builtin.bitAnd (n.val : Int) b != 0).reverse.foldl Builtin.bitOr 0 = (n.val : Int) := by decide +kernel
theorem num3 : ∀ n : Fin 1024, ∀ i : Fin 10, (decide (((n.val : Int).fdiv (2 ^ i.val)).fmod 2 = 1)) = (Builtin.bitAnd (n.val : Int) (2 ^ i.val) != 0) := by decide +kernel
theorem fval_FL : ∀ q ∈ FL, fval q.x = some q.b := by decide +kernel
theorem fold_fw (n : Int) : ∀ (ps : List FP), (∀ q ∈ ps, fval q.x = some q.b) → ∀ f, (ps.filterMap (fwd n)).foldlM fstep f = some (((ps.map FP.b).filter fun b => Builtin.bitAnd n b != 0).foldl Builtin.bitOr f)
  | [], _, f => rfl
  | q :: r, h, f => by
    have ih := fold_fw n r fun q hq => h q (.tail _ hq)
    by_cases e : Builtin.bitAnd n q.b = 0
    · simp [fwd, e, ih]
    · simp [fwd, e, ih, fstep, h q (.head _)]
theorem fold_any (ws : List Str) (bs : List Int) (h : ws.mapM fval = some bs) (f : Int) : ws.foldlM fstep f = some (bs.foldl Builtin.bitOr f) := by
  induction ws generalizing bs f with
  | nil => obtain rfl : [] = bs := by simpa using h
           rfl
  | cons x r ih =>
    simp only [List.mapM_cons] at h
    cases hx : fval x with
    | none => simp [hx] at h
    | some b =>
      cases hr : r.mapM fval with
      | none => simp [hx, hr] at h
      | some cs =>
        obtain rfl : b :: cs = bs := by simpa [hx, hr] using h
        simp [fstep, hx, ih cs hr]
theorem fnum_wds (n : Int) (h : 0 ≤ n ∧ n < 1024) : fnum (wds n) = some n := by
  obtain ⟨k, rfl⟩ := Int.eq_ofNat_of_zero_le h.1
  have := num1 ⟨k, by omega⟩
  unfold fnum wds
  rw [fold_fw _ FL fval_FL]
  exact congrArg some this
theorem mapM_fw (n : Int) : ∀ (ps : List FP), (∀ q ∈ ps, fval q.x = some q.b) → (ps.filterMap (fwd n)).mapM fval = some ((ps.map FP.b).filter fun b => Builtin.bitAnd n b != 0)
  | [], _ => rfl
  | q :: r, h => by
    have ih := mapM_fw n r fun q hq => h q (.tail _ hq)
    by_cases e : Builtin.bitAnd n q.b = 0
    · simp [fwd, e, ih]
    · simp [fwd, e, ih, h q (.head _)]
theorem mapM_app {a b : List Str} {x y : List Int} (h : a.mapM fval = some x) (k : b.mapM fval = some y) : (a ++ b).mapM fval = some (x ++ y) := by
  rw [List.mapM_append, h, k]; rfl
theorem mapM_rev : ∀ {a : List Str} {x : List Int}, a.mapM fval = some x → a.reverse.mapM fval = some x.reverse
  | [], x, h => by obtain rfl : [] = x := by simpa using h
                   rfl
  | s :: r, x, h => by
    simp only [List.mapM_cons] at h
    cases hx : fval s with
    | none => simp [hx] at h
    | some b =>
      cases hr : r.mapM fval with
      | none => simp [hx, hr] at h
      | some cs =>
        obtain rfl : b :: cs = x := by simpa [hx, hr] using h
        rw [List.reverse_cons, List.reverse_cons]
        exact mapM_app (mapM_rev hr) (by simp [hx])
theorem fnum_rev (n : Int) (h : 0 ≤ n ∧ n < 1024) : fnum (wds n).reverse = some n := by
  obtain ⟨k, rfl⟩ := Int.eq_ofNat_of_zero_le h.1
  have := num2 ⟨k, by omega⟩
  unfold fnum wds
  rw [fold_any _ _ (mapM_rev (mapM_fw _ FL fval_FL))]
  exact congrArg some this

end Plain2
section EqS
open PySem PySem.W PyProof.Rows PySem.Spec PySem.Calls PyProof.Rows.LCg
open PySem.SeqAt
theorem readsAll_strs {h : Heap} : ∀ {vs : List Value} {ws : List Str}, StrsAre vs ws → ReadsAll h vs (ws.map PyData.str) []
  | _, _, .nil => .nil
  | _, _, .cons k t r => by
    have := ReadsAll.cons (Reads.str (h := h) k t) (readsAll_strs (h := h) r)
    simpa using this
theorem reads_strs {h : Heap} {a : Addr} {vs : List Value} {ws : List Str} (hl : h.IsList a vs.toArray) (hi : StrsAre vs ws) : Reads h (.ref a) (.list (ws.map PyData.str)) [a] := by
  obtain ⟨o, ho, hc, n, hd⟩ := hl
  exact Reads.list ho hc hd (by simpa using readsAll_strs hi)
theorem canLayAll0_strs : ∀ ws : List Str, (∀ x ∈ ws, PyData.strOk x = true) → PyData.canLayAll0 (ws.map PyData.str) = true
  | [], _ => by simp [PyData.canLayAll0]
  | n :: r, h => by simp [PyData.canLayAll0, PyData.canLay0, canLayAll0_strs r fun x hx => h x (.tail _ hx), h n (.head _)]
theorem depthAll_strs : ∀ ws : List Str, PyData.depthAll (ws.map PyData.str) ≤ 1
  | [] => by simp [PyData.depthAll]
  | n :: r => by
    have := depthAll_strs r
    simp only [List.map_cons, PyData.depthAll, PyData.depth]
    omega
theorem shaped_strs (ws : List Str) (h : ∀ x ∈ ws, PyData.strOk x = true) : shaped (.list (ws.map PyData.str)) = true := by
  have h1 := depthAll_strs ws
  have h2 : PyData.depth (.list (ws.map PyData.str)) ≤ 64 := by simp only [PyData.depth]; omega
  show (PyData.canLay0 (.list (ws.map PyData.str)) && decide (PyData.depth (.list (ws.map PyData.str)) ≤ 64)) = true
  rw [Bool.and_eq_true]
  exact ⟨by simp only [PyData.canLay0]; exact canLayAll0_strs ws h, decide_eq_true h2⟩
theorem noMix_strs : ∀ ws us : List Str, noMixAll (ws.map PyData.str) (us.map PyData.str) = true
  | [], [] => by simp [noMixAll]
  | [], _ :: _ => by simp [noMixAll]
  | _ :: _, [] => by simp [noMixAll]
  | _ :: r, _ :: q => by simp [noMixAll, noMix, noMix_strs r q]
theorem same_strs : ∀ ws us : List Str, PySem.Spec.sameAll (ws.map PyData.str) (us.map PyData.str) = decide (ws = us)
  | [], [] => by simp [PySem.Spec.sameAll]
  | [], _ :: _ => by simp [PySem.Spec.sameAll]
  | _ :: _, [] => by simp [PySem.Spec.sameAll]
  | n :: r, k :: q => by
    simp only [List.map_cons, PySem.Spec.sameAll, PySem.Spec.same, same_strs r q]
    by_cases h : n = k <;> simp [h]
theorem ne_sameK {prog : Program} {w : World} {A : Around} {E : Value → Shared → Prop} {s : Shared} {a b : Addr} {vs us : List Value} {ws : List Str} {Q : Value → Shared → Prop} (hl : s.heap.IsList a vs.toArray) (hi : StrsAre vs ws) (hl' : s.heap.IsList b us.toArray) (hi' : StrsAre us ws) (ok : ∀ x ∈ ws, PyData.strOk x = true) (hu : A.units + 64 < cLine)
    (h : Q (.bool false) s) : wpAny (model prog w) A (compareOp .NotEq (.ref a) (.ref b)) Q E s :=
  ne_dataH_same (reads_strs hl hi) (reads_strs hl' hi') (shaped_strs ws ok) (shaped_strs ws ok) hu (by simp only [noMix]; exact noMix_strs ws ws) (by simp only [PySem.Spec.same]; rw [same_strs]; simpa using h)

end EqS
section CompL
open PySem PySem.W PyProof.Rows PySem.Spec PySem.Calls PyProof.Rows.LCg
abbrev rowL : List Str := [Str.ofString "Invisible", Str.ofString "Hidden", Str.ofString "Print", Str.ofString "NoZoom", Str.ofString "NoRotate", Str.ofString "NoView", Str.ofString "ReadOnly", Str.ofString "Locked", Str.ofString "ToggleNoView", Str.ofString "LockedContents"]
def rowF (n k : Int) : Option Str := if ((n.fdiv (2 ^ k.toNat)).fmod 2 == 1) = true then some (rowL.getD k.toNat Str.empty) else none
theorem fwd_if (n : Int) (q : FP) : fwd n q = if (Builtin.bitAnd n q.b != 0) = true then some q.x else none := by
  unfold fwd; by_cases h : Builtin.bitAnd n q.b = 0 <;> simp [h]
theorem range_map (n : Int) (h : 0 ≤ n ∧ n < 1024) : (List.range 10).map (fun i : Nat => rowF n (0 + (i : Int))) = FL.map (fwd n) := by
  obtain ⟨k, rfl⟩ := Int.eq_ofNat_of_zero_le h.1
  have key : ∀ i : Nat, (hi : i < 10) → rowF (k : Int) (0 + (i : Int)) = if (Builtin.bitAnd (k : Int) (2 ^ i) != 0) = true then some (rowL.getD i Str.empty) else none := fun i hi => by
    have := num3 ⟨k, by omega⟩ ⟨i, hi⟩
    dsimp only at this
    unfold rowF
    rw [Int.zero_add, Int.toNat_natCast, ← this]
    simp only [beq_iff_eq, decide_eq_true_eq]
  have e : List.range 10 = [0, 1, 2, 3, 4, 5, 6, 7, 8, 9] := rfl
  rw [e]
  simp only [List.map_cons, List.map_nil, FL, fwd_if]
  rw [key 0 (by decide), key 1 (by decide), key 2 (by decide), key 3 (by decide), key 4 (by decide), key 5 (by decide), key 6 (by decide), key 7 (by decide), key 8 (by decide), key 9 (by decide)]
  rfl
theorem range_wds (n : Int) (h : 0 ≤ n ∧ n < 1024) : (List.range 10).filterMap (fun i : Nat => rowF n (0 + (i : Int))) = wds n := by
  have e := congrArg (List.filterMap id) (range_map n h)
  rw [List.filterMap_map, List.filterMap_map] at e
  exact e
theorem wds_sub (n : Int) : ∀ x ∈ wds n, x ∈ rowL := by
  intro x hx
  obtain ⟨q, hq, e⟩ := List.mem_filterMap.mp hx
  have all : ∀ q ∈ FL, q.x ∈ rowL := by decide +kernel
  unfold fwd at e
  split at e
  · cases e; exact all q hq
  · cases e
theorem wds_ok (n : Int) : ∀ x ∈ wds n, PyData.strOk x = true := fun x hx => (by decide +kernel : ∀ x ∈ rowL, PyData.strOk x = true) x (wds_sub n x hx)
theorem wds_30 (n : Int) : ∀ x ∈ wds n, x.length ≤ 30 := fun x hx => (by decide +kernel : ∀ x ∈ rowL, x.length ≤ 30) x (wds_sub n x hx)
theorem wds_len (n : Int) : (wds n).length ≤ 10 := List.length_filterMap_le _ FL
theorem rev_30 (n : Int) : ∀ x ∈ (wds n).reverse, x.length ≤ 30 := fun x hx => wds_30 n x (List.mem_reverse.mp hx)
theorem strs_app : ∀ {vs ws : List Value} {xs ys : List Str}, StrsAre vs xs → StrsAre ws ys → StrsAre (vs ++ ws) (xs ++ ys)
  | _, _, _, _, .nil, h => h
  | _, _, _, _, .cons y t r, h => .cons y t (strs_app r h)
theorem strs_rev : ∀ {vs : List Value} {xs : List Str}, StrsAre vs xs → StrsAre vs.reverse xs.reverse
  | _, _, .nil => .nil
  | _, _, .cons y t r => by
    rw [List.reverse_cons, List.reverse_cons]
    exact strs_app (strs_rev r) (.cons y t .nil)
section
variable {prog : Program} {w : World} {A : Around} {h₀ : Heap} {L : Addr} {m : Str → Option Value} {env : Env} {ct elt : Expr} {x : Str} {scope : Scope} {cl : List (Str × Addr)} {s : Shared} {S : List (Addr × Obj) → Prop} {Fin : List Value → List (Addr × Obj) → Prop} {news : List (Addr × Obj)}
theorem st_law {n : Int} (hn : 0 ≤ n ∧ n < 1024)
    (turn : ∀ (k : Int) t I oI C oC D m₂ ys h tk (E' : Value → Shared → Prop), 0 ≤ k → k < 0 + ((10 : Nat) : Int) → NsObj oC m₂ → m₂ x = some (.int k t) → Fr h₀ L h m → News h₀ L h ((I, oI) :: (C, oC) :: (D, lst ys) :: news) → Off3 I C D news → ((@Ne Nat I C) ∧ (@Ne Nat I D) ∧ (@Ne Nat C D)) →
      wpAny (model prog w) A (isTrue ct (compEnvC scope cl C env) (eval ct (compEnvC scope cl C env))) (fun b s' => if b = true then wpAny (model prog w) A (eval elt (compEnvC scope cl C env)) (CompEnd h₀ L m { s with heap := h, toks := tk } I oI C oC D (lst ys) S (fun y news' => StEl news (rowF n k) y news')) E' s'
        else CompEnd h₀ L m { s with heap := h, toks := tk } I oI C oC D (lst ys) S (fun _ news' => StNo news (rowF n k) news') Value.none s') E' { s with heap := h, toks := tk })
    (fin : ∀ ys, StrsAre ys (wds n) → Fin ys news) : LCt.CompRestT prog w A h₀ L m env ct elt x scope cl s S (fun i v => ∃ t, v = .int (0 + (i : Int)) t) Fin 10 0 [] news :=
  st_range (a := 0) (rowF n) turn fun ys h => fin ys (by rw [← range_wds n hn]; exact h)
theorem rev_strs {E : Value → Shared → Prop} {l : Addr} {vs : List Value} {ws : List Str} {value slice : PySem.Expr} {vk : Value} {ops : List Value} {Q : Value → Shared → Prop} (F : Fr h₀ L s.heap m) (N : News h₀ L s.heap news) (hl : s.heap.IsList l vs.toArray) (pk : IsPart vk (some (-1))) (hi : StrsAre vs ws)
    (h : ∀ D us h', Fr h₀ L h' m → News h₀ L h' ((D, listOf (List.toArray us) 0) :: news) → (∀ p ∈ news, p.1 < D) → StrsAre us ws.reverse → Q (.ref D) { s with heap := h' })
    (hs : subscripted slice false (.ref l) (.ref s.heap.objs.size) = operate ops (getItem (.ref l) (.ref s.heap.objs.size))) (ht : ∀ r, letTemporaryGo value (.ref l) r = pure ()) (hz : ws.length ≤ 100) :
    wpAny (model prog w) A (subscriptTail value slice (.ref l) (.ref s.heap.objs.size)) Q E { s with heap := s.heap.push { cls := .type "slice", data := .fields #[.none, .none, vk] } } :=
  krv_lit (its := vs.toArray) (zs := vs.reverse) F N hl pk rfl (fun D h' F' N' l1 => h D vs.reverse h' F' N' l1 (strs_rev hi)) hs ht (by rw [List.size_toArray, strs_len hi, sizeLine_eq]; omega)
end

end CompL
section Bad
open PySem PySem.W PyProof.Rows PySem.Spec PySem.Calls PyProof.Rows.LCg
abbrev badL : List Str := [Str.ofString "", Str.ofString "hidden", Str.ofString "Shown"]
theorem bad_val : ∀ x ∈ badL, fval x = none := by decide +kernel
theorem bad_len : ∀ x ∈ badL, x.length ≤ 30 := by decide +kernel
theorem bad_30 (n : Int) {x : Str} (hx : x ∈ badL) : ∀ y ∈ wds n ++ [x], y.length ≤ 30 := fun y hy => (List.mem_append.mp hy).elim (wds_30 n y) fun h => by rw [List.mem_singleton.mp h]; exact bad_len x hx
theorem fnum_bad (n : Int) {x : Str} (hx : x ∈ badL) : fnum (wds n ++ [x]) = none := by
  unfold fnum
  rw [List.foldlM_append]
  cases (wds n).foldlM fstep 0 with
  | none => rfl
  | some f => simp [fstep, bad_val x hx]
theorem add_bad {prog : Program} {w : World} {A : Around} {E : Value → Shared → Prop} {s : Shared} {h₀ : Heap} {L a b : Addr} {m : Str → Option Value} {news : List (Addr × Obj)} {vs : List Value} {n : Int} {x : Str} {t : Tok} {Q : Value → Shared → Prop}
    (F : Fr h₀ L s.heap m) (N : News h₀ L s.heap news) (ha : s.heap.IsList a vs.toArray) (hb : s.heap.IsList b #[.str x t]) (hi : StrsAre vs (wds n))
    (h : ∀ D us h', Fr h₀ L h' m → News h₀ L h' ((D, listOf (List.toArray us) 0) :: news) → (∀ p ∈ news, p.1 < D) → StrsAre us (wds n ++ [x]) → Q (.ref D) { s with heap := h' }) : wpAny (model prog w) A (binaryOp .Add (.ref a) (.ref b)) Q E s :=
  add_lists (ws := [.str x t]) F N ha hb (fun h' F' N' => h _ _ h' F' N' (fun p hp => Heap.lt_size (N p hp).1) (strs_app hi (.cons x t .nil))) (by rw [strs_len hi, List.length_singleton, sizeLine_eq]; have := wds_len n; omega)
theorem ne_int_self {prog : Program} {w : World} {A : Around} {E : Value → Shared → Prop} {s : Shared} {a : Int} {t u : Tok} {Q : Value → Shared → Prop} (h : Q (.bool false) s) : wpAny (model prog w) A (compareOp .NotEq (.int a t) (.int a u)) Q E s := PyProof.Rows.ne_int (by simpa using h)

end Bad
section Fetch
open PySem PySem.W PyProof.Rows PySem.Spec PySem.Calls
local macro_rules | `(tactic| k_inst) => `(tactic| exact InstAt.base (by k_asm) (by assumption) (by assumption))
def lf_34 : Lean.MacroM Tc := `(tactic| (rename Fr _ _ _ _ => lF'))
def lf_35 : Lean.MacroM Tc := `(tactic| (rename News _ _ _ _ => lN'))
def lf_36 : Lean.MacroM Tc := `(tactic| (rename IsRange _ _ _ _ _ _ _ _ => rgX))
def lf_37 : Lean.MacroM Tc := `(tactic| (with_unfolding_all refine iter_rangeUnr (n := 30) (by assumption) rgX (by first | decide | rfl) (by first | decide | rfl) lF' lN' ?_))
def lf_38 : Lean.MacroM Tc := `(tactic| (clear lF' lN'))
local macro_rules | `(tactic| walk_at "pyIter ref") => sq [lf_22, lf_34, lf_35, lf_36, lf_37, lf_38, ins "i' l1", ys "l1"]
set_option maxRecDepth 100000 in
set_option maxHeartbeats 8000000 in
theorem fetch_int {w : World} {p : Program} {loose : List Str} {mean : ExcName → Option Value} {mg mb : Str → Option Value} {A : Around} {h₀ : Heap} {L : Addr} {m : Str → Option Value} {s : Shared} {Q E : Value → Shared → Prop} {news : List (Addr × Obj)}
  {sh : Addr} {n : Int} {tn : Tok}
  (S : At (pre.heap_1_39 w.params) p loose mean mg mb 3 A h₀ L) (F : Fr h₀ L s.heap m) (N : News h₀ L s.heap news) (hh : A.handled = none)
  (hret : ∀ t h' tk', Fr h₀ L h' m → News h₀ L h' news → Q (.int n t) { s with heap := h', toks := tk' }) :
  wpAny (model PySem.Challenge.rw_pb0473_01.row.prog w) A (call (.ref 120) [.ref sh, .int n tn]) Q E s := by
  obtain ⟨dp, un, gd, cn, cs, a, ccd, cl, outer, A₀, base, rfl, B, X, T, hk, hd', hu⟩ := S.x
  revert X; k_fill; intro X
  refine wpAny_call ?_
  k_dflt (refine' code_fs (act := []) (rest := news) ?k1 ?k2 ?k3 ?k4 ?kR ?kd ?k5 ?kA ?kF ?kK ?k6 ?k7 ?k8 ?k9 ?kB ?_ ?c2 ?c3 ?c4 ?c5; (case kA => exact rfl); (case kF => exact rfl); (case kK => assumption); (case k1 => exact B); (case k2 => exact F); (case k3 => exact X); (case k4 => exact News.nil); (case kR => exact N); (case kd => exact fun _ _ h => nomatch h); (case k5 => exact T); (case k6 => k_is); (case k7 => k_is); (case k8 => exact Nat.lt_of_le_of_lt (Nat.le_add_right _ _) hd'); (case k9 => exact BindsTo.of_eq rfl); (case c5 => decide); (case kB => exact locs rfl); (case c2 => exact rfl); (case c3 => exact rfl); (case c4 => exact rfl); k_whole)
  clear F N
  intro g' L' h' F' N' B' X' T' hR hS l1
  
  refine cleanW ?_; (try dsimp only); k_fold
  k_steps
  all_goals exact hret _ _ _ (by assumption) (by assumption)
set_option maxRecDepth 100000 in
set_option maxHeartbeats 8000000 in
theorem fetch_none {w : World} {p : Program} {loose : List Str} {mean : ExcName → Option Value} {mg mb : Str → Option Value} {A : Around} {h₀ : Heap} {L : Addr} {m : Str → Option Value} {s : Shared} {Q E : Value → Shared → Prop} {news : List (Addr × Obj)}
  {sh : Addr}
  (S : At (pre.heap_1_39 w.params) p loose mean mg mb 3 A h₀ L) (F : Fr h₀ L s.heap m) (N : News h₀ L s.heap news) (hh : A.handled = none)
  (hret : ∀ h' tk', Fr h₀ L h' m → News h₀ L h' news → Q (.none) { s with heap := h', toks := tk' }) :
  wpAny (model PySem.Challenge.rw_pb0473_01.row.prog w) A (call (.ref 120) [.ref sh, .none]) Q E s := by
  obtain ⟨dp, un, gd, cn, cs, a, ccd, cl, outer, A₀, base, rfl, B, X, T, hk, hd', hu⟩ := S.x
  revert X; k_fill; intro X
  refine wpAny_call ?_
  k_dflt (refine' code_fs (act := []) (rest := news) ?k1 ?k2 ?k3 ?k4 ?kR ?kd ?k5 ?kA ?kF ?kK ?k6 ?k7 ?k8 ?k9 ?kB ?_ ?c2 ?c3 ?c4 ?c5; (case kA => exact rfl); (case kF => exact rfl); (case kK => assumption); (case k1 => exact B); (case k2 => exact F); (case k3 => exact X); (case k4 => exact News.nil); (case kR => exact N); (case kd => exact fun _ _ h => nomatch h); (case k5 => exact T); (case k6 => k_is); (case k7 => k_is); (case k8 => exact Nat.lt_of_le_of_lt (Nat.le_add_right _ _) hd'); (case k9 => exact BindsTo.of_eq rfl); (case c5 => decide); (case kB => exact locs rfl); (case c2 => exact rfl); (case c3 => exact rfl); (case c4 => exact rfl); k_whole)
  clear F N
  intro g' L' h' F' N' B' X' T' hR hS l1
  
  refine cleanW ?_; (try dsimp only); k_fold
  k_steps
  all_goals exact hret _ _ (by assumption) (by assumption)
set_option maxRecDepth 100000 in
set_option maxHeartbeats 8000000 in
theorem fetch_bool {w : World} {p : Program} {loose : List Str} {mean : ExcName → Option Value} {mg mb : Str → Option Value} {A : Around} {h₀ : Heap} {L : Addr} {m : Str → Option Value} {s : Shared} {Q E : Value → Shared → Prop} {news : List (Addr × Obj)}
  {sh : Addr} {b : Bool}
  (S : At (pre.heap_1_39 w.params) p loose mean mg mb 3 A h₀ L) (F : Fr h₀ L s.heap m) (N : News h₀ L s.heap news) (hh : A.handled = none)
  (hret : ∀ h' tk', Fr h₀ L h' m → News h₀ L h' news → Q (.bool b) { s with heap := h', toks := tk' }) :
  wpAny (model PySem.Challenge.rw_pb0473_01.row.prog w) A (call (.ref 120) [.ref sh, .bool b]) Q E s := by
  obtain ⟨dp, un, gd, cn, cs, a, ccd, cl, outer, A₀, base, rfl, B, X, T, hk, hd', hu⟩ := S.x
  revert X; k_fill; intro X
  refine wpAny_call ?_
  k_dflt (refine' code_fs (act := []) (rest := news) ?k1 ?k2 ?k3 ?k4 ?kR ?kd ?k5 ?kA ?kF ?kK ?k6 ?k7 ?k8 ?k9 ?kB ?_ ?c2 ?c3 ?c4 ?c5; (case kA => exact rfl); (case kF => exact rfl); (case kK => assumption); (case k1 => exact B); (case k2 => exact F); (case k3 => exact X); (case k4 => exact News.nil); (case kR => exact N); (case kd => exact fun _ _ h => nomatch h); (case k5 => exact T); (case k6 => k_is); (case k7 => k_is); (case k8 => exact Nat.lt_of_le_of_lt (Nat.le_add_right _ _) hd'); (case k9 => exact BindsTo.of_eq rfl); (case c5 => decide); (case kB => exact locs rfl); (case c2 => exact rfl); (case c3 => exact rfl); (case c4 => exact rfl); k_whole)
  clear F N
  intro g' L' h' F' N' B' X' T' hR hS l1
  
  refine cleanW ?_; (try dsimp only); k_fold
  k_steps
  all_goals exact hret _ _ (by assumption) (by assumption)
set_option maxRecDepth 100000 in
set_option maxHeartbeats 8000000 in
theorem fetch_name {w : World} {p : Program} {loose : List Str} {mean : ExcName → Option Value} {mg mb : Str → Option Value} {A : Around} {h₀ : Heap} {L : Addr} {m : Str → Option Value} {s : Shared} {Q E : Value → Shared → Prop} {news : List (Addr × Obj)}
  {sh x dx : Addr} {ox : Obj} (hx : Live h₀ news x (instObj 66 dx)) (hdx : Live h₀ news dx ox)
  (S : At (pre.heap_1_39 w.params) p loose mean mg mb 3 A h₀ L) (F : Fr h₀ L s.heap m) (N : News h₀ L s.heap news) (hh : A.handled = none)
  (hret : ∀ h' tk', Fr h₀ L h' m → News h₀ L h' news → Q (.ref x) { s with heap := h', toks := tk' }) :
  wpAny (model PySem.Challenge.rw_pb0473_01.row.prog w) A (call (.ref 120) [.ref sh, .ref x]) Q E s := by
  obtain ⟨dp, un, gd, cn, cs, a, ccd, cl, outer, A₀, base, rfl, B, X, T, hk, hd', hu⟩ := S.x
  revert X; k_fill; intro X
  refine wpAny_call ?_
  k_dflt (refine' code_fs (act := []) (rest := news) ?k1 ?k2 ?k3 ?k4 ?kR ?kd ?k5 ?kA ?kF ?kK ?k6 ?k7 ?k8 ?k9 ?kB ?_ ?c2 ?c3 ?c4 ?c5; (case kA => exact rfl); (case kF => exact rfl); (case kK => assumption); (case k1 => exact B); (case k2 => exact F); (case k3 => exact X); (case k4 => exact News.nil); (case kR => exact N); (case kd => exact fun _ _ h => nomatch h); (case k5 => exact T); (case k6 => k_is); (case k7 => k_is); (case k8 => exact Nat.lt_of_le_of_lt (Nat.le_add_right _ _) hd'); (case k9 => exact BindsTo.of_eq rfl); (case c5 => decide); (case kB => exact locs rfl); (case c2 => exact rfl); (case c3 => exact rfl); (case c4 => exact rfl); k_whole)
  clear F N
  intro g' L' h' F' N' B' X' T' hR hS l1
  have hx1 := hx.at hS hR; have hx2 := hdx.at hS hR; clear hx hdx
  refine cleanW ?_; (try dsimp only); k_fold
  k_steps
  all_goals exact hret _ _ (by assumption) (by assumption)
set_option maxRecDepth 100000 in
set_option maxHeartbeats 8000000 in
theorem fetch_deci {w : World} {p : Program} {loose : List Str} {mean : ExcName → Option Value} {mg mb : Str → Option Value} {A : Around} {h₀ : Heap} {L : Addr} {m : Str → Option Value} {s : Shared} {Q E : Value → Shared → Prop} {news : List (Addr × Obj)}
  {sh x dx : Addr} {ox : Obj} (hx : Live h₀ news x (instObj 274 dx)) (hdx : Live h₀ news dx ox)
  (S : At (pre.heap_1_39 w.params) p loose mean mg mb 3 A h₀ L) (F : Fr h₀ L s.heap m) (N : News h₀ L s.heap news) (hh : A.handled = none)
  (hret : ∀ h' tk', Fr h₀ L h' m → News h₀ L h' news → Q (.ref x) { s with heap := h', toks := tk' }) :
  wpAny (model PySem.Challenge.rw_pb0473_01.row.prog w) A (call (.ref 120) [.ref sh, .ref x]) Q E s := by
  obtain ⟨dp, un, gd, cn, cs, a, ccd, cl, outer, A₀, base, rfl, B, X, T, hk, hd', hu⟩ := S.x
  revert X; k_fill; intro X
  refine wpAny_call ?_
  k_dflt (refine' code_fs (act := []) (rest := news) ?k1 ?k2 ?k3 ?k4 ?kR ?kd ?k5 ?kA ?kF ?kK ?k6 ?k7 ?k8 ?k9 ?kB ?_ ?c2 ?c3 ?c4 ?c5; (case kA => exact rfl); (case kF => exact rfl); (case kK => assumption); (case k1 => exact B); (case k2 => exact F); (case k3 => exact X); (case k4 => exact News.nil); (case kR => exact N); (case kd => exact fun _ _ h => nomatch h); (case k5 => exact T); (case k6 => k_is); (case k7 => k_is); (case k8 => exact Nat.lt_of_le_of_lt (Nat.le_add_right _ _) hd'); (case k9 => exact BindsTo.of_eq rfl); (case c5 => decide); (case kB => exact locs rfl); (case c2 => exact rfl); (case c3 => exact rfl); (case c4 => exact rfl); k_whole)
  clear F N
  intro g' L' h' F' N' B' X' T' hR hS l1
  have hx1 := hx.at hS hR; have hx2 := hdx.at hS hR; clear hx hdx
  refine cleanW ?_; (try dsimp only); k_fold
  k_steps
  all_goals exact hret _ _ (by assumption) (by assumption)

end Fetch
section Dg
open PySem PySem.W PyProof.Rows PySem.Spec PySem.Calls
section
variable {prog : Program} {w : World} {K : Type} [DecidableEq K] {knd : KeyKind prog w K} {A : Around} {E : Value → Shared → Prop} {s : Shared} {h₀ : Heap} {L d : Addr} {m : Str → Option Value} {o : Obj} {kvs : List (K × Value)} {k : K} {key v dflt : Value}
theorem dgk (F : Fr h₀ L s.heap m) (hp : h₀.get? d = some o) (hd : o.IsDictOf knd kvs) : s.heap.DictOf knd d kvs := Heap.dictOf_iff.mpr ⟨o, F.keep _ _ hp, hd⟩
theorem dg_method {pl : Sem Bool} {Q : Value × List Value → Shared → Prop} (F : Fr h₀ L s.heap m) (hp : h₀.get? d = some o) (hd : o.IsDictOf knd kvs) (h : Q (.builtin "dict.get", [.ref d]) s) : wpAny (model prog w) A (getMethod (.ref d) "get" pl) Q E s :=
  have hD := dgk F hp hd
  getMethod_builtin hD.typeIs PySem.F.plainAttrs_dict PySem.F.slot_dict_get PySem.F.type_dict_get hD.mapOf.noDict h
theorem dg_get1 {Q : Value → Shared → Prop} (F : Fr h₀ L s.heap m) (hp : h₀.get? d = some o) (hd : o.IsDictOf knd kvs) (lo : (d == sysModules) = false) (hkey : knd.is k key = true) (x : Option Value) (hl : valueAt kvs k = x) (h : Q (x.getD .none) { s with toks := s.toks + 1 }) :
    wpAny (model prog w) A (call (.builtin "dict.get") [.ref d, key]) Q E s :=
  have hD := dgk F hp hd
  call_meetsIn PySem.F.slot_dict_get hD.typeIs PySem.F.entry_dict_get (PySem.F.args_dict_get_2 _ _) (meets_dict_get knd d hkey lo) ⟨_, hD.mapOf, by rw [hl]; exact h⟩
theorem dg_get2 {Q : Value → Shared → Prop} (F : Fr h₀ L s.heap m) (hp : h₀.get? d = some o) (hd : o.IsDictOf knd kvs) (lo : (d == sysModules) = false) (hkey : knd.is k key = true) (x : Option Value) (hl : valueAt kvs k = x) (h : Q (x.getD dflt) { s with toks := s.toks + 1 }) :
    wpAny (model prog w) A (call (.builtin "dict.get") [.ref d, key, dflt]) Q E s :=
  have hD := dgk F hp hd
  call_meetsIn PySem.F.slot_dict_get hD.typeIs PySem.F.entry_dict_get (PySem.F.args_dict_get_3 _ _ _) (meets_dict_get_default knd d hkey lo dflt) ⟨_, hD.mapOf, by rw [hl]; exact h⟩
end

end Dg
section FetchR
open PySem PySem.W PyProof.Rows PySem.Spec PySem.Calls
local macro_rules | `(tactic| k_inst) => `(tactic| exact InstAt.base (by k_asm) (by assumption) (by assumption))
local macro_rules | `(tactic| walk_at "pyIter ref") => sq [lf_22, lf_34, lf_35, lf_36, lf_37, lf_38, ins "i' l1", ys "l1"]
def lf_39 : Lean.MacroM Tc := `(tactic| (with_reducible show wpAny _ _ (getMethod (Value.ref _) (Str.ofString "get") _) _ _ _))
def lf_40 : Lean.MacroM Tc := `(tactic| (first
  | refine dg_method (knd := PySem.strKind _ _) (by k_asm) (by assumption) (by assumption) ?_
  | refine dg_method (knd := PySem.intKind _ _) (by k_asm) (by assumption) (by assumption) ?_))
local macro_rules | `(tactic| walk_at "getMethod ref") => sq [ys "h", lf_39, kd [lf_40]]
def lf_41 : Lean.MacroM Tc := `(tactic| (first
  | refine dg_get1 (knd := PySem.strKind _ _) (by k_asm) (by assumption) (by assumption) (by assumption) (strKind_is _ _ _ _) (some _) (by rfl) ?_
  | refine dg_get1 (knd := PySem.strKind _ _) (by k_asm) (by assumption) (by assumption) (by assumption) (strKind_is _ _ _ _) none (by rfl) ?_
  | refine dg_get2 (knd := PySem.intKind _ _) (by k_asm) (by assumption) (by assumption) (by assumption) (intKind_is _ _ _ _) (some _) (by rfl) ?_
  | refine dg_get2 (knd := PySem.intKind _ _) (by k_asm) (by assumption) (by assumption) (by assumption) (intKind_is _ _ _ _) none (by rfl) ?_))
def lf_42 : Lean.MacroM Tc := `(tactic| (try dsimp only [Option.getD]))
local macro_rules | `(tactic| walk_at "call builtin:dict.get") => sq [ys "h", kd [lf_41], lf_42]
def lf_43 : Lean.MacroM Tc := `(tactic| (with_reducible show wpAny _ _ (assign (Expr.Tuple _ _ _) _ (Value.ref _)) _ _ _))
def lf_44 : Lean.MacroM Tc := `(tactic| (exact Fr.tup (by k_asm) (by assumption)))
local macro_rules | `(tactic| walk_at "assign Tuple") => sq [ys "h", lf_43, kd [rf ``unpackN_ "k1 k2 k3 k4 k5 k6 _", css "k1:k k2:k", cs "k3" lf_44, css "k4:er k5:er k6:er", ys "w"], ins "h' F' N'", ys "sw"]
set_option maxRecDepth 100000 in
set_option maxHeartbeats 8000000 in
theorem fetch_ref2 {w : World} {p : Program} {loose : List Str} {mean : ExcName → Option Value} {mg mb : Str → Option Value} {A : Around} {h₀ : Heap} {L : Addr} {m : Str → Option Value} {s : Shared} {Q E : Value → Shared → Prop} {news : List (Addr × Obj)}
  {sh dsh tb tr tp x dx : Addr} {k1 k2 k3 k4 k5 : Int} {t1 t2 t3 t4 t5 u1 u2 u3 u4 : Tok} {n1 n2 n3 n4 : Nat} {num : Int} {ot : Obj}
  (hx : Live h₀ news x (instObj 94 dx)) (hdx : Live h₀ news dx (dictOf [⟨k1, .str (Str.ofString "number") t1, .int 2 u1⟩, ⟨k2, .str (Str.ofString "generation") t2, .int 0 u2⟩] n1))
  (hs : Live h₀ news sh (instObj 130 dsh)) (hds : Live h₀ news dsh (dictOf [⟨k3, .str (Str.ofString "table") t3, .ref tb⟩, ⟨k4, .str (Str.ofString "trailer") t4, .ref tr⟩] n2))
  (ht : Live h₀ news tb ot) (hdk : ot.IsDictOf (intKind PySem.Challenge.rw_pb0473_01.row.prog w) [((1 : Int), Value.ref tp)]) (hlo : (tb == sysModules) = false) (hp : Live h₀ news tp ⟨.type "tuple", none, .seq #[.int 0 u3, .int num u4] n4, #[]⟩)
  (S : At (pre.heap_1_39 w.params) p loose mean mg mb 3 A h₀ L) (F : Fr h₀ L s.heap m) (N : News h₀ L s.heap news) (hh : A.handled = none)
  (hret : ∀ h' tk', Fr h₀ L h' m → News h₀ L h' news → Q (.none) { s with heap := h', toks := tk' }) :
  wpAny (model PySem.Challenge.rw_pb0473_01.row.prog w) A (call (.ref 120) [.ref sh, .ref x]) Q E s := by
  obtain ⟨dp, un, gd, cn, cs, a, ccd, cl, outer, A₀, base, rfl, B, X, T, hk, hd', hu⟩ := S.x
  revert X; k_fill; intro X
  refine wpAny_call ?_
  k_dflt (refine' code_fs (act := []) (rest := news) ?k1 ?k2 ?k3 ?k4 ?kR ?kd ?k5 ?kA ?kF ?kK ?k6 ?k7 ?k8 ?k9 ?kB ?_ ?c2 ?c3 ?c4 ?c5; (case kA => exact rfl); (case kF => exact rfl); (case kK => assumption); (case k1 => exact B); (case k2 => exact F); (case k3 => exact X); (case k4 => exact News.nil); (case kR => exact N); (case kd => exact fun _ _ h => nomatch h); (case k5 => exact T); (case k6 => k_is); (case k7 => k_is); (case k8 => exact Nat.lt_of_le_of_lt (Nat.le_add_right _ _) hd'); (case k9 => exact BindsTo.of_eq rfl); (case c5 => decide); (case kB => exact locs rfl); (case c2 => exact rfl); (case c3 => exact rfl); (case c4 => exact rfl); k_whole)
  clear F N
  intro g' L' h' F' N' B' X' T' hR hS l1
  have hx1 := hx.at hS hR; have hx2 := hdx.at hS hR; have hs1 := hs.at hS hR; have hs2 := hds.at hS hR; have ht1 := ht.at hS hR; have hp1 : IsTup g' tp #[.int 0 u3, .int num u4] := ⟨_, hp.at hS hR, rfl, _, rfl⟩; clear hx hdx hs hds ht hp
  refine cleanW ?_; (try dsimp only); k_fold
  k_steps
  all_goals exact hret _ _ (by assumption) (by assumption)
set_option maxRecDepth 100000 in
set_option maxHeartbeats 8000000 in
theorem fetch_ref1 {w : World} {p : Program} {loose : List Str} {mean : ExcName → Option Value} {mg mb : Str → Option Value} {A : Around} {h₀ : Heap} {L : Addr} {m : Str → Option Value} {s : Shared} {Q E : Value → Shared → Prop} {news : List (Addr × Obj)}
  {sh dsh tb tr tp x dx : Addr} {k1 k2 k3 k4 k5 : Int} {t1 t2 t3 t4 t5 u1 u2 u3 u4 : Tok} {n1 n2 n3 n4 : Nat} {num : Int} {ot : Obj}
  (hx : Live h₀ news x (instObj 94 dx)) (hdx : Live h₀ news dx (dictOf [⟨k1, .str (Str.ofString "number") t1, .int 1 u1⟩, ⟨k2, .str (Str.ofString "generation") t2, .int 0 u2⟩] n1))
  (hs : Live h₀ news sh (instObj 130 dsh)) (hds : Live h₀ news dsh (dictOf [⟨k3, .str (Str.ofString "table") t3, .ref tb⟩, ⟨k4, .str (Str.ofString "trailer") t4, .ref tr⟩] n2))
  (ht : Live h₀ news tb ot) (hdk : ot.IsDictOf (intKind PySem.Challenge.rw_pb0473_01.row.prog w) [((1 : Int), Value.ref tp)]) (hlo : (tb == sysModules) = false) (hp : Live h₀ news tp ⟨.type "tuple", none, .seq #[.int 0 u3, .int num u4] n4, #[]⟩)
  (S : At (pre.heap_1_39 w.params) p loose mean mg mb 3 A h₀ L) (F : Fr h₀ L s.heap m) (N : News h₀ L s.heap news) (hh : A.handled = none)
  (hret : ∀ t h' tk', Fr h₀ L h' m → News h₀ L h' news → Q (.int num t) { s with heap := h', toks := tk' }) :
  wpAny (model PySem.Challenge.rw_pb0473_01.row.prog w) A (call (.ref 120) [.ref sh, .ref x]) Q E s := by
  obtain ⟨dp, un, gd, cn, cs, a, ccd, cl, outer, A₀, base, rfl, B, X, T, hk, hd', hu⟩ := S.x
  revert X; k_fill; intro X
  refine wpAny_call ?_
  k_dflt (refine' code_fs (act := []) (rest := news) ?k1 ?k2 ?k3 ?k4 ?kR ?kd ?k5 ?kA ?kF ?kK ?k6 ?k7 ?k8 ?k9 ?kB ?_ ?c2 ?c3 ?c4 ?c5; (case kA => exact rfl); (case kF => exact rfl); (case kK => assumption); (case k1 => exact B); (case k2 => exact F); (case k3 => exact X); (case k4 => exact News.nil); (case kR => exact N); (case kd => exact fun _ _ h => nomatch h); (case k5 => exact T); (case k6 => k_is); (case k7 => k_is); (case k8 => exact Nat.lt_of_le_of_lt (Nat.le_add_right _ _) hd'); (case k9 => exact BindsTo.of_eq rfl); (case c5 => decide); (case kB => exact locs rfl); (case c2 => exact rfl); (case c3 => exact rfl); (case c4 => exact rfl); k_whole)
  clear F N
  intro g' L' h' F' N' B' X' T' hR hS l1
  have hx1 := hx.at hS hR; have hx2 := hdx.at hS hR; have hs1 := hs.at hS hR; have hs2 := hds.at hS hR; have ht1 := ht.at hS hR; have hp1 : IsTup g' tp #[.int 0 u3, .int num u4] := ⟨_, hp.at hS hR, rfl, _, rfl⟩; clear hx hdx hs hds ht hp
  refine cleanW ?_; (try dsimp only); k_fold
  k_steps
  all_goals exact hret _ _ _ (by assumption) (by assumption)

end FetchR
section Val
open PySem PySem.W PyProof.Rows PySem.Spec PySem.Calls
theorem Live.up {h₀ g : Heap} {news news' : List (Addr × Obj)} {a : Addr} {o : Obj} (l : Live h₀ news a o) (k : ∀ b o, h₀.get? b = some o → g.get? b = some o) (r : ∀ q ∈ news, g.get? q.1 = some q.2) : Live g news' a o := .inl (l.at k r)
inductive Res | num (n : Int) | val (v : Value)
def RV : Res → Value → Prop
  | .num n, v => ∃ t, v = .int n t
  | .val u, v => v = u
structure ShelfIs (w : World) (h₀ : Heap) (news : List (Addr × Obj)) (sh : Addr) (num : Int) : Prop where
  x : ∃ (dsh tb tr tp : Addr) (k3 k4 : Int) (t3 t4 u3 u4 : Tok) (n2 n4 : Nat) (ot : Obj), Live h₀ news sh (instObj 130 dsh) ∧ Live h₀ news dsh (dictOf [⟨k3, .str (Str.ofString "table") t3, .ref tb⟩, ⟨k4, .str (Str.ofString "trailer") t4, .ref tr⟩] n2) ∧
    Live h₀ news tb ot ∧ ot.IsDictOf (intKind PySem.Challenge.rw_pb0473_01.row.prog w) [((1 : Int), Value.ref tp)] ∧ (tb == sysModules) = false ∧ Live h₀ news tp ⟨.type "tuple", none, .seq #[.int 0 u3, .int num u4] n4, #[]⟩
inductive VIs (h₀ : Heap) (news : List (Addr × Obj)) (num : Int) : Value → Res → Prop
  | int (n t) : VIs h₀ news num (.int n t) (.num n)
  | none : VIs h₀ news num .none (.val .none)
  | bool (b) : VIs h₀ news num (.bool b) (.val (.bool b))
  | name {x dx ox} (h1 : Live h₀ news x (instObj 66 dx)) (h2 : Live h₀ news dx ox) : VIs h₀ news num (.ref x) (.val (.ref x))
  | deci {x dx ox} (h1 : Live h₀ news x (instObj 274 dx)) (h2 : Live h₀ news dx ox) : VIs h₀ news num (.ref x) (.val (.ref x))
  | ref1 {x dx k1 k2 t1 t2 u1 u2 n1} (h1 : Live h₀ news x (instObj 94 dx)) (h2 : Live h₀ news dx (dictOf [⟨k1, .str (Str.ofString "number") t1, .int 1 u1⟩, ⟨k2, .str (Str.ofString "generation") t2, .int 0 u2⟩] n1)) : VIs h₀ news num (.ref x) (.num num)
  | ref2 {x dx k1 k2 t1 t2 u1 u2 n1} (h1 : Live h₀ news x (instObj 94 dx)) (h2 : Live h₀ news dx (dictOf [⟨k1, .str (Str.ofString "number") t1, .int 2 u1⟩, ⟨k2, .str (Str.ofString "generation") t2, .int 0 u2⟩] n1)) : VIs h₀ news num (.ref x) (.val .none)
theorem ShelfIs.up {w : World} {h₀ g : Heap} {news news' : List (Addr × Obj)} {sh : Addr} {num : Int} (S : ShelfIs w h₀ news sh num) (k : ∀ b o, h₀.get? b = some o → g.get? b = some o) (r : ∀ q ∈ news, g.get? q.1 = some q.2) : ShelfIs w g news' sh num := by
  obtain ⟨dsh, tb, tr, tp, k3, k4, t3, t4, u3, u4, n2, n4, ot, a1, a2, a3, a4, a5, a6⟩ := S.x
  exact ⟨⟨dsh, tb, tr, tp, k3, k4, t3, t4, u3, u4, n2, n4, ot, a1.up k r, a2.up k r, a3.up k r, a4, a5, a6.up k r⟩⟩
theorem VIs.up {h₀ g : Heap} {news news' : List (Addr × Obj)} {num : Int} {v : Value} {R : Res} (V : VIs h₀ news num v R) (k : ∀ b o, h₀.get? b = some o → g.get? b = some o) (r : ∀ q ∈ news, g.get? q.1 = some q.2) : VIs g news' num v R := by
  cases V with
  | int n t => exact .int n t
  | none => exact .none
  | bool b => exact .bool b
  | name h1 h2 => exact .name (h1.up k r) (h2.up k r)
  | deci h1 h2 => exact .deci (h1.up k r) (h2.up k r)
  | ref1 h1 h2 => exact .ref1 (h1.up k r) (h2.up k r)
  | ref2 h1 h2 => exact .ref2 (h1.up k r) (h2.up k r)
theorem fetch_c {w : World} {p : Program} {loose : List Str} {mean : ExcName → Option Value} {mg mb : Str → Option Value} {A : Around} {h₀ : Heap} {L : Addr} {m : Str → Option Value} {s : Shared} {Q E : Value → Shared → Prop} {news : List (Addr × Obj)}
  {sh : Addr} {num : Int} {v : Value} {R : Res} (H : ShelfIs w h₀ news sh num) (V : VIs h₀ news num v R)
  (S : At (pre.heap_1_39 w.params) p loose mean mg mb 3 A h₀ L) (F : Fr h₀ L s.heap m) (N : News h₀ L s.heap news) (hh : A.handled = none)
  (hret : ∀ v' h' tk', RV R v' → Fr h₀ L h' m → News h₀ L h' news → Q v' { s with heap := h', toks := tk' }) :
  wpAny (model PySem.Challenge.rw_pb0473_01.row.prog w) A (call (.ref 120) [.ref sh, v]) Q E s := by
  obtain ⟨dsh, tb, tr, tp, k3, k4, t3, t4, u3, u4, n2, n4, ot, a1, a2, a3, a4, a5, a6⟩ := H.x
  cases V with
  | int n t => exact fetch_int S F N hh fun t h' tk' F N => hret _ _ _ ⟨_, rfl⟩ F N
  | none => exact fetch_none S F N hh fun h' tk' F N => hret _ _ _ rfl F N
  | bool b => exact fetch_bool S F N hh fun h' tk' F N => hret _ _ _ rfl F N
  | name h1 h2 => exact fetch_name h1 h2 S F N hh fun h' tk' F N => hret _ _ _ rfl F N
  | deci h1 h2 => exact fetch_deci h1 h2 S F N hh fun h' tk' F N => hret _ _ _ rfl F N
  | ref1 h1 h2 => exact fetch_ref1 (k5 := 0) (t5 := 0) (n3 := 0) h1 h2 a1 a2 a3 a4 a5 a6 S F N hh fun t h' tk' F N => hret _ _ _ ⟨_, rfl⟩ F N
  | ref2 h1 h2 => exact fetch_ref2 (k5 := 0) (t5 := 0) (n3 := 0) h1 h2 a1 a2 a3 a4 a5 a6 S F N hh fun h' tk' F N => hret _ _ _ rfl F N

end Val
section GetC
local macro_rules | `(tactic| walk_at "one more GetC") => `(tactic| skip)
open PySem PySem.W PyProof.Rows PySem.Spec PySem.Calls
local macro_rules | `(tactic| k_inst) => `(tactic| exact InstAt.base (by k_asm) (by assumption) (by assumption))
local macro_rules | `(tactic| walk_at "pyIter ref") => sq [lf_22, lf_34, lf_35, lf_36, lf_37, lf_38, ins "i' l1", ys "l1"]
local macro_rules | `(tactic| walk_at "getMethod ref") => sq [ys "h", lf_39, kd [lf_40]]
def lf_45 : Lean.MacroM Tc := `(tactic| (refine dg_get1 (knd := PySem.strKind _ _) (by k_asm) (by assumption) (by assumption) (by assumption) (strKind_is _ _ _ _) _ (by assumption) ?_))
local macro_rules | `(tactic| walk_at "call builtin:dict.get") => sq [ys "h", kd [lf_45]]
local macro_rules | `(tactic| walk_at "call ref") => sq [shw 120 "_", kd [rf ``fetch_c "kH kV kS kF kN kh _", css "kH:a kV:a kS:at kF:k kN:k kh:r"], ins "v' h' tk' hv' F' N'"]
set_option maxRecDepth 100000 in
set_option maxHeartbeats 8000000 in
theorem get_c {w : World} {p : Program} {loose : List Str} {mean : ExcName → Option Value} {mg mb : Str → Option Value} {A : Around} {h₀ : Heap} {L : Addr} {m : Str → Option Value} {s : Shared} {Q E : Value → Shared → Prop} {news : List (Addr × Obj)}
  {sh hx : Addr} {num : Int} {key : Str} {tk : Tok} {oh : Obj} {kvs : List (Str × Value)} {x : Option Value} {R : Res} (H : ShelfIs w h₀ news sh num) (hl : Live h₀ news hx oh) (hdk : oh.IsDictOf (strKind PySem.Challenge.rw_pb0473_01.row.prog w) kvs) (hlo : (hx == sysModules) = false)
  (hval : valueAt kvs key = x) (V : VIs h₀ news num (x.getD .none) R)
  (S : At (pre.heap_1_39 w.params) p loose mean mg mb 5 A h₀ L) (F : Fr h₀ L s.heap m) (N : News h₀ L s.heap news) (hh : A.handled = none)
  (hret : ∀ v' h' tk', RV R v' → Fr h₀ L h' m → News h₀ L h' news → Q v' { s with heap := h', toks := tk' }) :
  wpAny (model PySem.Challenge.rw_pb0473_01.row.prog w) A (call (.ref 127) [.ref sh, .ref hx, .str key tk]) Q E s := by
  obtain ⟨dp, un, gd, cn, cs, a, ccd, cl, outer, A₀, base, rfl, B, X, T, hk, hd', hu⟩ := S.x
  revert X; k_fill; intro X
  refine wpAny_call ?_
  k_dflt (refine' code_fs (act := []) (rest := news) ?k1 ?k2 ?k3 ?k4 ?kR ?kd ?k5 ?kA ?kF ?kK ?k6 ?k7 ?k8 ?k9 ?kB ?_ ?c2 ?c3 ?c4 ?c5; (case kA => exact rfl); (case kF => exact rfl); (case kK => assumption); (case k1 => exact B); (case k2 => exact F); (case k3 => exact X); (case k4 => exact News.nil); (case kR => exact N); (case kd => exact fun _ _ h => nomatch h); (case k5 => exact T); (case k6 => k_is); (case k7 => k_is); (case k8 => exact Nat.lt_of_le_of_lt (Nat.le_add_right _ _) hd'); (case k9 => exact BindsTo.of_eq rfl); (case c5 => decide); (case kB => exact locs rfl); (case c2 => exact rfl); (case c3 => exact rfl); (case c4 => exact rfl); k_whole)
  clear F N
  intro g' L' h' F' N' B' X' T' hR hS l1
  have hl1 := hl.at hS hR; have H1 : ShelfIs w g' [] sh num := H.up hS hR; have V1 : VIs g' [] num (x.getD .none) R := V.up hS hR; obtain ⟨dsh, tb, tr, tp, k3, k4, t3, t4, u3, u4, n2, n4, ot, a1, a2, a3, a4, a5, a6⟩ := H.x; have hs1 := a1.at hS hR; have hs2 := a2.at hS hR; clear a1 a2 a3 a4 a5 a6 H V hl
  refine cleanW ?_; (try dsimp only); k_fold
  k_steps
  all_goals exact hret _ _ _ (by assumption) (by assumption) (by assumption)

end GetC
section FlagsC
open PySem PySem.W PyProof.Rows PySem.Spec PySem.Calls
local macro_rules | `(tactic| k_inst) => `(tactic| exact InstAt.base (by k_asm) (by assumption) (by assumption))
local macro_rules | `(tactic| walk_at "pyIter ref") => sq [lf_22, lf_34, lf_35, lf_36, lf_37, lf_38, ins "i' l1", ys "l1"]
theorem rv_split {g : Heap} {num : Int} {v v' : Value} {R : Res} (V : VIs g [] num v R) (r : RV R v') : (∃ n t, R = .num n ∧ v' = .int n t) ∨ (R = .val .none ∧ v' = .none) ∨ (∃ b, R = .val (.bool b) ∧ v' = .bool b) ∨
    (∃ x dx ox, R = .val (.ref x) ∧ v' = .ref x ∧ g.get? x = some (instObj 66 dx) ∧ g.get? dx = some ox) ∨ (∃ x dx ox, R = .val (.ref x) ∧ v' = .ref x ∧ g.get? x = some (instObj 274 dx) ∧ g.get? dx = some ox) := by
  cases V with
  | int n t => obtain ⟨u, rfl⟩ := r; exact .inl ⟨_, _, rfl, rfl⟩
  | none => cases r; exact .inr (.inl ⟨rfl, rfl⟩)
  | bool b => cases r; exact .inr (.inr (.inl ⟨_, rfl, rfl⟩))
  | name h1 h2 => cases r; exact .inr (.inr (.inr (.inl ⟨_, _, _, rfl, rfl, h1.elim id (fun h => nomatch h), h2.elim id (fun h => nomatch h)⟩)))
  | deci h1 h2 => cases r; exact .inr (.inr (.inr (.inr ⟨_, _, _, rfl, rfl, h1.elim id (fun h => nomatch h), h2.elim id (fun h => nomatch h)⟩)))
  | ref1 h1 h2 => obtain ⟨u, rfl⟩ := r; exact .inl ⟨_, _, rfl, rfl⟩
  | ref2 h1 h2 => cases r; exact .inr (.inl ⟨rfl, rfl⟩)
def heldOf : Res → Int | .num n => n | .val _ => 0
def lf_46 : Lean.MacroM Tc := `(tactic| (rcases rv_split (by assumption) hv' with ⟨_, _, e1, e2⟩ | ⟨e1, e2⟩ | ⟨_, e1, e2⟩ | ⟨_, _, _, e1, e2, _, _⟩ | ⟨_, _, _, e1, e2, _, _⟩) <;> subst e1 <;> subst e2)
local macro_rules | `(tactic| walk_at "call ref") => sq [shw 127 "_", kd [rf ``get_c "kH kl kd klo kval kV kS kF kN kh _", css "kH:a kl:ia kd:a klo:a kval:a kV:a kS:at kF:k kN:k kh:r"], ins "v' h' tk' hv' F' N'", lf_46]
set_option maxRecDepth 100000 in
set_option maxHeartbeats 8000000 in
theorem flags_c {w : World} {p : Program} {loose : List Str} {mean : ExcName → Option Value} {mg mb : Str → Option Value} {A : Around} {h₀ : Heap} {L : Addr} {m : Str → Option Value} {s : Shared} {Q E : Value → Shared → Prop} {news : List (Addr × Obj)}
  {sh hx : Addr} {num : Int} {oh : Obj} {kvs : List (Str × Value)} {x : Option Value} {R : Res} (H : ShelfIs w h₀ news sh num) (hl : Live h₀ news hx oh) (hdk : oh.IsDictOf (strKind PySem.Challenge.rw_pb0473_01.row.prog w) kvs) (hlo : (hx == sysModules) = false)
  (hval : valueAt kvs (Str.ofString "F") = x) (V : VIs h₀ news num (x.getD .none) R)
  (S : At (pre.heap_1_39 w.params) p loose mean mg mb 8 A h₀ L) (F : Fr h₀ L s.heap m) (N : News h₀ L s.heap news) (hh : A.handled = none)
  (hret : ∀ t h' tk', Fr h₀ L h' m → News h₀ L h' news → Q (.int (heldOf R) t) { s with heap := h', toks := tk' }) :
  wpAny (model PySem.Challenge.rw_pb0473_01.row.prog w) A (call (.ref 166) [.ref sh, .ref hx]) Q E s := by
  obtain ⟨dp, un, gd, cn, cs, a, ccd, cl, outer, A₀, base, rfl, B, X, T, hk, hd', hu⟩ := S.x
  revert X; k_fill; intro X
  refine wpAny_call ?_
  k_dflt (refine' code_fs (act := []) (rest := news) ?k1 ?k2 ?k3 ?k4 ?kR ?kd ?k5 ?kA ?kF ?kK ?k6 ?k7 ?k8 ?k9 ?kB ?_ ?c2 ?c3 ?c4 ?c5; (case kA => exact rfl); (case kF => exact rfl); (case kK => assumption); (case k1 => exact B); (case k2 => exact F); (case k3 => exact X); (case k4 => exact News.nil); (case kR => exact N); (case kd => exact fun _ _ h => nomatch h); (case k5 => exact T); (case k6 => k_is); (case k7 => k_is); (case k8 => exact Nat.lt_of_le_of_lt (Nat.le_add_right _ _) hd'); (case k9 => exact BindsTo.of_eq rfl); (case c5 => decide); (case kB => exact locs rfl); (case c2 => exact rfl); (case c3 => exact rfl); (case c4 => exact rfl); k_whole)
  clear F N
  intro g' L' h' F' N' B' X' T' hR hS l1
  have hl1 := hl.at hS hR; have H1 : ShelfIs w g' [] sh num := H.up hS hR; have V1 : VIs g' [] num (x.getD .none) R := V.up hS hR; obtain ⟨dsh, tb, tr, tp, k3, k4, t3, t4, u3, u4, n2, n4, ot, a1, a2, a3, a4, a5, a6⟩ := H.x; have hs1 := a1.at hS hR; have hs2 := a2.at hS hR; clear a1 a2 a3 a4 a5 a6 H V hl
  refine cleanW ?_; (try dsimp only); k_fold
  k_steps
  all_goals exact hret _ _ _ (by assumption) (by assumption)

end FlagsC
section KindC
local macro_rules | `(tactic| walk_at "one more KindC") => `(tactic| skip)
open PySem PySem.W PyProof.Rows PySem.Spec PySem.Calls
local macro_rules | `(tactic| k_inst) => `(tactic| exact InstAt.base (by k_asm) (by assumption) (by assumption))
local macro_rules | `(tactic| walk_at "pyIter ref") => sq [lf_22, lf_34, lf_35, lf_36, lf_37, lf_38, ins "i' l1", ys "l1"]
inductive KIs (h₀ : Heap) (news : List (Addr × Obj)) : Value → Str → Prop
  | int (n t) : KIs h₀ news (.int n t) (Str.ofString "")
  | none : KIs h₀ news .none (Str.ofString "")
  | name {x dx k1 t1 u1 n1} {word : Str} (h1 : Live h₀ news x (instObj 66 dx)) (h2 : Live h₀ news dx (dictOf [⟨k1, .str (Str.ofString "text") t1, .str word u1⟩] n1)) : KIs h₀ news (.ref x) word
theorem KIs.vis {h₀ : Heap} {news : List (Addr × Obj)} {num : Int} {v : Value} {word : Str} (k : KIs h₀ news v word) : ∃ R, VIs h₀ news num v R := by
  cases k with
  | int n t => exact ⟨_, .int n t⟩
  | none => exact ⟨_, .none⟩
  | name h1 h2 => exact ⟨_, .name h1 h2⟩
theorem kis_split {g : Heap} {num : Int} {v v' : Value} {word : Str} {R : Res} (k : KIs g [] v word) (V : VIs g [] num v R) (r : RV R v') : (∃ n t, Str.ofString "" = word ∧ v' = .int n t) ∨ (Str.ofString "" = word ∧ v' = .none) ∨
    (∃ x dx k1 t1 u1 n1, v' = .ref x ∧ g.get? x = some (instObj 66 dx) ∧ g.get? dx = some (dictOf [⟨k1, .str (Str.ofString "text") t1, .str word u1⟩] n1)) := by
  cases k with
  | int n t => cases V; obtain ⟨u, rfl⟩ := r; exact .inl ⟨_, _, rfl, rfl⟩
  | none => cases V; cases r; exact .inr (.inl ⟨rfl, rfl⟩)
  | name h1 h2 =>
    have e1 := h1.elim id (fun h => nomatch h)
    have e2 := h2.elim id (fun h => nomatch h)
    cases V with
    | name a b => cases r; exact .inr (.inr ⟨_, _, _, _, _, _, rfl, e1, e2⟩)
    | deci a b => have a := a.elim id (fun h => nomatch h); rw [e1] at a; cases a
    | ref1 a b => have a := a.elim id (fun h => nomatch h); rw [e1] at a; cases a
    | ref2 a b => have a := a.elim id (fun h => nomatch h); rw [e1] at a; cases a
theorem KIs.up {h₀ g : Heap} {news : List (Addr × Obj)} {v : Value} {word : Str} (V : KIs h₀ news v word) (k : ∀ b o, h₀.get? b = some o → g.get? b = some o) (r : ∀ q ∈ news, g.get? q.1 = some q.2) : KIs g [] v word := by
  cases V with
  | int n t => exact .int n t
  | none => exact .none
  | name h1 h2 => exact .name (h1.up k r) (h2.up k r)
def lf_47 : Lean.MacroM Tc := `(tactic| (rcases kis_split (by assumption) (by assumption) hv' with ⟨_, _, e1, e2⟩ | ⟨e1, e2⟩ | ⟨_, _, _, _, _, _, e2, _, _⟩) <;> (try subst e1) <;> subst e2)
local macro_rules | `(tactic| walk_at "call ref") => sq [shw 127 "_", kd [rf ``get_c "kH kl kd klo kval kV kS kF kN kh _", css "kH:a kl:ia kd:a klo:a kval:a kV:a kS:at kF:k kN:k kh:r"], ins "v' h' tk' hv' F' N'", lf_47]
set_option maxRecDepth 100000 in
set_option maxHeartbeats 8000000 in
theorem kind_c {w : World} {p : Program} {loose : List Str} {mean : ExcName → Option Value} {mg mb : Str → Option Value} {A : Around} {h₀ : Heap} {L : Addr} {m : Str → Option Value} {s : Shared} {Q E : Value → Shared → Prop} {news : List (Addr × Obj)}
  {sh hx : Addr} {num : Int} {oh : Obj} {kvs : List (Str × Value)} {x : Option Value} {word : Str} (H : ShelfIs w h₀ news sh num) (hl : Live h₀ news hx oh) (hdk : oh.IsDictOf (strKind PySem.Challenge.rw_pb0473_01.row.prog w) kvs) (hlo : (hx == sysModules) = false)
  (hval : valueAt kvs (Str.ofString "Subtype") = x) (KI : KIs h₀ news (x.getD .none) word)
  (S : At (pre.heap_1_39 w.params) p loose mean mg mb 8 A h₀ L) (F : Fr h₀ L s.heap m) (N : News h₀ L s.heap news) (hh : A.handled = none)
  (hret : ∀ t h' tk', Fr h₀ L h' m → News h₀ L h' news → Q (.str word t) { s with heap := h', toks := tk' }) :
  wpAny (model PySem.Challenge.rw_pb0473_01.row.prog w) A (call (.ref 173) [.ref sh, .ref hx]) Q E s := by
  obtain ⟨dp, un, gd, cn, cs, a, ccd, cl, outer, A₀, base, rfl, B, X, T, hk, hd', hu⟩ := S.x
  revert X; k_fill; intro X
  refine wpAny_call ?_
  k_dflt (refine' code_fs (act := []) (rest := news) ?k1 ?k2 ?k3 ?k4 ?kR ?kd ?k5 ?kA ?kF ?kK ?k6 ?k7 ?k8 ?k9 ?kB ?_ ?c2 ?c3 ?c4 ?c5; (case kA => exact rfl); (case kF => exact rfl); (case kK => assumption); (case k1 => exact B); (case k2 => exact F); (case k3 => exact X); (case k4 => exact News.nil); (case kR => exact N); (case kd => exact fun _ _ h => nomatch h); (case k5 => exact T); (case k6 => k_is); (case k7 => k_is); (case k8 => exact Nat.lt_of_le_of_lt (Nat.le_add_right _ _) hd'); (case k9 => exact BindsTo.of_eq rfl); (case c5 => decide); (case kB => exact locs rfl); (case c2 => exact rfl); (case c3 => exact rfl); (case c4 => exact rfl); k_whole)
  clear F N
  intro g' L' h' F' N' B' X' T' hR hS l1
  have hl1 := hl.at hS hR; have H1 : ShelfIs w g' [] sh num := H.up hS hR; have K1 := KI.up hS hR; obtain ⟨R, V1⟩ : ∃ R, VIs g' [] num (x.getD .none) R := K1.vis; obtain ⟨dsh, tb, tr, tp, k3, k4, t3, t4, u3, u4, n2, n4, ot, a1, a2, a3, a4, a5, a6⟩ := H.x; have hs1 := a1.at hS hR; have hs2 := a2.at hS hR; clear a1 a2 a3 a4 a5 a6 H KI hl
  refine cleanW ?_; (try dsimp only); k_fold
  k_steps
  all_goals exact hret _ _ _ (by assumption) (by assumption)

end KindC
section Shown
open PySem PySem.W PyProof.Rows PySem.Spec PySem.Calls
local macro_rules | `(tactic| k_inst) => `(tactic| exact InstAt.base (by k_asm) (by assumption) (by assumption))
local macro_rules | `(tactic| walk_at "pyIter ref") => sq [lf_22, lf_34, lf_35, lf_36, lf_37, lf_38, ins "i' l1", ys "l1"]
theorem IsTup.of_K {K : Frag} {h : Heap} {a : Addr} {items : Array Value} {n : Nat} (X : K.In h) (e : K.lookup a = some ⟨.type "tuple", none, .seq items n, #[]⟩) : IsTup h a items := ⟨_, X _ _ e, rfl, _, rfl⟩
theorem Live.any {h : Heap} {news : List (Addr × Obj)} {a : Addr} {o : Obj} (l : Live h [] a o) : Live h news a o := l.elim .inl (fun h => nomatch h)
theorem ShelfIs.any {w : World} {h : Heap} {news : List (Addr × Obj)} {sh : Addr} {num : Int} (S : ShelfIs w h [] sh num) : ShelfIs w h news sh num := S.up (fun _ _ e => e) (fun _ h => nomatch h)
theorem VIs.any {h : Heap} {news : List (Addr × Obj)} {num : Int} {v : Value} {R : Res} (V : VIs h [] num v R) : VIs h news num v R := V.up (fun _ _ e => e) (fun _ h => nomatch h)
theorem KIs.any {h : Heap} {news : List (Addr × Obj)} {v : Value} {word : Str} (V : KIs h [] v word) : KIs h news v word := by
  cases V with
  | int n t => exact .int n t
  | none => exact .none
  | name h1 h2 => exact .name h1.any h2.any
abbrev hasW (n : Int) (x : Str) : Bool := (wds n).any fun y => y == x
abbrev kindsL : List Str := [Str.ofString "Text", Str.ofString "Link", Str.ofString "FreeText", Str.ofString "Line", Str.ofString "Square", Str.ofString "Circle", Str.ofString "Polygon", Str.ofString "PolyLine", Str.ofString "Highlight", Str.ofString "Underline", Str.ofString "Squiggly", Str.ofString "StrikeOut", Str.ofString "Stamp", Str.ofString "Caret", Str.ofString "Ink", Str.ofString "Popup", Str.ofString "FileAttachment", Str.ofString "Sound", Str.ofString "Movie", Str.ofString "Widget", Str.ofString "Screen", Str.ofString "PrinterMark", Str.ofString "TrapNet", Str.ofString "Watermark", Str.ofString "3D", Str.ofString "Redact"]
abbrev waysL : List Str := [Str.ofString "screen", Str.ofString "print"]
def shownW (hid inv kin way pri nov : Bool) : Bool := if hid || (inv && !kin) then false else if way then pri else !nov
theorem sw_hid {hid inv kin way pri nov : Bool} (h1 : hid = true) : shownW hid inv kin way pri nov = false := by subst h1; rfl
theorem sw_inv {hid inv kin way pri nov : Bool} (h1 : hid = false) (h2 : inv = true) (h3 : kin = false) : shownW hid inv kin way pri nov = false := by subst h1 h2 h3; rfl
theorem sw_kinP {hid inv kin way pri nov : Bool} (h1 : hid = false) (h2 : inv = true) (h3 : kin = true) (h4 : way = true) : shownW hid inv kin way pri nov = pri := by subst h1 h2 h3 h4; rfl
theorem sw_kinS {hid inv kin way pri nov : Bool} (h1 : hid = false) (h2 : inv = true) (h3 : kin = true) (h4 : way = false) : shownW hid inv kin way pri nov = !nov := by subst h1 h2 h3 h4; rfl
theorem sw_oP {hid inv kin way pri nov : Bool} (h1 : hid = false) (h2 : inv = false) (h4 : way = true) : shownW hid inv kin way pri nov = pri := by subst h1 h2 h4; rfl
theorem sw_oS {hid inv kin way pri nov : Bool} (h1 : hid = false) (h2 : inv = false) (h4 : way = false) : shownW hid inv kin way pri nov = !nov := by subst h1 h2 h4; rfl
def shownB (n : Int) (word wy : Str) : Bool := shownW (hasW n (Str.ofString "Hidden")) (hasW n (Str.ofString "Invisible")) (kindsL.any fun y => y == word) (wy == Str.ofString "print") (hasW n (Str.ofString "Print")) (hasW n (Str.ofString "NoView"))
def lf_48 : Lean.MacroM Tc := `(tactic| (exact ShelfIs.any (by assumption)))
def lf_49 : Lean.MacroM Tc := `(tactic| (exact VIs.any (by assumption)))
local macro_rules | `(tactic| walk_at "call ref") => sq [shw 166 "_", kd [rf ``flags_c "kH kl kd klo kval kV kS kF kN kh _", css "kS:at kF:k kN:k kh:r", cs "kH" lf_48, css "kl:ia kd:a klo:a kval:a", cs "kV" lf_49], ins "t' h' tk' F' N'"]
def lf_50 : Lean.MacroM Tc := `(tactic| (exact KIs.any (by assumption)))
local macro_rules | `(tactic| walk_at "call ref") => sq [shw 173 "_", kd [rf ``kind_c "kH kl kd klo kval kV kS kF kN kh _", css "kS:at kF:k kN:k kh:r", cs "kH" lf_48, css "kl:ia kd:a klo:a kval:a", cs "kV" lf_50], ins "t' h' tk' F' N'"]
local macro_rules | `(tactic| walk_at "call ref") => sq [shw 152 "_", kd [rf ``fw_c ". . kS kF kN kh _", css "kS:at kF:k kN:k kh:r"], ins "D' ys' h' tk' hy' ne' F' N'"]
def lf_51 : Lean.MacroM Tc := `(tactic| (with_reducible show wpAny _ _ (compareOp CmpOp.In (Value.str _ _) (Value.ref _)) _ _ _))
def lf_52 : Lean.MacroM Tc := `(tactic| (exact News.isList (by k_asm) (by k_mem)))
local macro_rules | `(tactic| walk_at "compareOp In str ref") => sq [ys "h", lf_51, wu [rf ``in_list_strs "k1 k2 _", cs "k1" lf_52, css "k2:a", ys "w"]]
def lf_53 : Lean.MacroM Tc := `(tactic| (with_reducible show wpAny _ _ (compareOp CmpOp.NotIn (Value.str _ _) (Value.ref _)) _ _ _))
local macro_rules | `(tactic| walk_at "compareOp NotIn str ref") => sq [ys "h", lf_53, wu [rf ``notin_list_strs "k1 k2 _", cs "k1" lf_52, css "k2:a", ys "w"]]
def lf_54 : Lean.MacroM Tc := `(tactic| (first | (with_reducible show wpAny _ _ (compareOp CmpOp.NotIn (Value.str _ _) (Value.ref 146)) _ _ _) | (with_reducible show wpAny _ _ (compareOp CmpOp.NotIn (Value.str _ _) (Value.ref 147)) _ _ _)))
def lf_55 : Lean.MacroM Tc := `(tactic| (exact IsTup.of_K (Frag.In.keeps (by k_asm) (Fr.keep (by k_asm))) (by k_is)))
local macro_rules | `(tactic| walk_at "compareOp NotIn str ref") => sq [ys "h", lf_54, wu [rf ``notin_tuple_strs "k1 k2 _", cs "k1" lf_55, css "k2:rc", ys "w"]]
local macro_rules | `(tactic| walk_at "exec Raise some none") => `(tactic| (refine Raise_ev rfl ?_))
local macro_rules | `(tactic| walk_at "call ref") => sq [shw 46 "_", kd [rf ``paper_make "kS kF kN kh _", css "kS:at kF:k kN:k kh:r"], ins "e' oe' a0' h' tk' F' N' ne' c1' c2'"]
set_option maxRecDepth 100000 in
set_option maxHeartbeats 8000000 in
theorem shown_c {w : World} {p : Program} {loose : List Str} {mean : ExcName → Option Value} {mg mb : Str → Option Value} {A : Around} {h₀ base : Heap} {fr : List Env} {L : Addr} {m : Str → Option Value} {s : Shared} {Q E : Value → Shared → Prop} {news : List (Addr × Obj)}
  {sh hx : Addr} {num : Int} {oh : Obj} {kvs : List (Str × Value)} {x y : Option Value} {R : Res} {word wy : Str} {tw : Tok} (H : ShelfIs w h₀ news sh num) (hl : Live h₀ news hx oh) (hdk : oh.IsDictOf (strKind PySem.Challenge.rw_pb0473_01.row.prog w) kvs) (hlo : (hx == sysModules) = false)
  (hval : valueAt kvs (Str.ofString "F") = x) (V : VIs h₀ news num (x.getD .none) R) (hvals : valueAt kvs (Str.ofString "Subtype") = y) (KI : KIs h₀ news (y.getD .none) word)
  (S : AtX (pre.heap_1_39 w.params) p loose mean mg mb 20 A base fr h₀ L) (F : Fr h₀ L s.heap m) (N : News h₀ L s.heap news) (hh : A.handled = none)
  (hret : (waysL.any fun y => y == wy) = true → ∀ h' tk', Fr h₀ L h' m → News h₀ L h' news → Q (.bool (shownB (heldOf R) word wy)) { s with heap := h', toks := tk' })
  (hE : (waysL.any fun y => y == wy) = false → ∀ e g₂ h' tk', Fr h₀ L g₂ m → News h₀ L g₂ news → RaisedSN base g₂ fr e (.ref 46) [] h' → g₂.UpToSlots h' → E (.ref e) { s with heap := h', toks := tk' }) :
  wpAny (model PySem.Challenge.rw_pb0473_01.row.prog w) A (call (.ref 180) [.ref sh, .ref hx, .str wy tw]) Q E s := by
  obtain ⟨dp, un, gd, cn, cs, a, ccd, cl, outer, A₀, rfl, rfl, B, X, T, hk, hd', hu⟩ := S.x
  revert X; k_fill; intro X
  refine wpAny_call ?_
  k_dflt (refine' code_fx (act := []) (rest := news) ?k1 ?k2 ?k3 ?k4 ?kR ?kd ?k5 ?kA ?kF ?kK ?k6 ?k7 ?k8 ?k9 ?kB ?_ ?c2 ?c3 ?c4 ?c5; (case kA => exact rfl); (case kF => exact rfl); (case kK => assumption); (case k1 => exact B); (case k2 => exact F); (case k3 => exact X); (case k4 => exact News.nil); (case kR => exact N); (case kd => exact fun _ _ h => nomatch h); (case k5 => exact T); (case k6 => k_is); (case k7 => k_is); (case k8 => exact Nat.lt_of_le_of_lt (Nat.le_add_right _ _) hd'); (case k9 => exact BindsTo.of_eq rfl); (case c5 => decide); (case kB => exact locs rfl); (case c2 => exact rfl); (case c3 => exact rfl); (case c4 => exact rfl); k_whole)
  intro g' L' h' FG F' N' B' X' T' hR hS l1
  have NG : News h₀ L g' news := fun q hq => ⟨hR q hq, (N q hq).2⟩
  clear F N
  have hl1 := hl.at hS hR; have H1 : ShelfIs w g' [] sh num := H.up hS hR; have V1 : VIs g' [] num (x.getD .none) R := V.up hS hR; obtain ⟨dsh, tb, tr, tp, k3, k4, t3, t4, u3, u4, n2, n4, ot, a1, a2, a3, a4, a5, a6⟩ := H.x; have K1 := KI.up hS hR; have hs1 := a1.at hS hR; have hs2 := a2.at hS hR; clear a1 a2 a3 a4 a5 a6 H V KI hl
  refine cleanW ?_; (try dsimp only); k_fold
  k_steps
  all_goals first
    | (refine made_end X' (by kernel_rfl) B' rfl rfl (by assumption) (by assumption) (by assumption) (by assumption) fun h₉ R₉ U₉ => ?_
       exact hE (by assumption) _ _ _ _ FG NG R₉ U₉)
    | (refine (congrArg (fun b => Q (Value.bool b) _) ?_).mp (hret (by assumption) _ _ (by assumption) (by assumption)); clear hret hE
       first
       | exact sw_hid (by assumption)
       | exact sw_inv (by assumption) (by assumption) (by assumption)
       | exact sw_kinP (by assumption) (by assumption) (by assumption) (by assumption)
       | exact sw_kinS (by assumption) (by assumption) (by assumption) (by assumption)
       | exact sw_oP (by assumption) (by assumption) (by assumption)
       | exact sw_oS (by assumption) (by assumption) (by assumption))

end Shown
section PenC
open PySem PySem.W PyProof.Rows PySem.Spec PySem.Calls
local macro_rules | `(tactic| k_inst) => `(tactic| exact InstAt.base (by k_asm) (by assumption) (by assumption))
local macro_rules | `(tactic| walk_at "pyIter ref") => sq [lf_22, lf_34, lf_35, lf_36, lf_37, lf_38, ins "i' l1", ys "l1"]
theorem map_idI (l : List Int) : l.map (fun k' => k') = l := List.map_id' l
theorem take40 {ns : List Int} : (ns.take 40).length ≤ 40 := by rw [List.length_take]; omega
theorem pen_end {g h₀ h : Heap} {L L' a b c : Addr} {o1 o2 o3 : Obj} {news : List (Addr × Obj)} (hR : ∀ q ∈ news, g.get? q.1 = some q.2) (N' : News g L' h [(a, o1), (b, o2), (c, o3)]) (kN : News h₀ L h [(a, o1), (b, o2), (c, o3)]) (kO : News h₀ L h news) :
    News h₀ L h ((a, o1) :: (b, o2) :: news) ∧ ∀ q ∈ news, q.1 ≠ a ∧ q.1 ≠ b := by
  refine ⟨fun q hq => ?_, fun q hq => ⟨fun e => ?_, fun e => ?_⟩⟩
  · rcases List.mem_cons.mp hq with rfl | hq
    · exact kN _ (.head _)
    rcases List.mem_cons.mp hq with rfl | hq
    · exact kN _ (.tail _ (.head _))
    · exact kO q hq
  · have := hR q hq; rw [e, (N' _ (.head _)).2.2] at this; cases this
  · have := hR q hq; rw [e, (N' _ (.tail _ (.head _))).2.2] at this; cases this
set_option maxRecDepth 100000 in
set_option maxHeartbeats 8000000 in
theorem pen_c {w : World} {p : Program} {loose : List Str} {mean : ExcName → Option Value} {mg mb : Str → Option Value} {A : Around} {h₀ : Heap} {L : Addr} {m : Str → Option Value} {s : Shared} {Q E : Value → Shared → Prop} {news : List (Addr × Obj)}
  {sc : Addr} {vs : List Value} {ns : List Int} (hsc : h₀.IsList sc vs.toArray) (hI : IntsAre vs ns) (hlen : ns.length ≤ 63)
  (S : At (pre.heap_1_39 w.params) p loose mean mg mb 4 A h₀ L) (F : Fr h₀ L s.heap m) (N : News h₀ L s.heap news) (hh : A.handled = none)
  (hret : ∀ (P C : Addr) (ys : List Value) (ys' : List Int) (k1 k2 : Nat) (t1 t2 : Tok) h' tk', @Ne Nat C P → IntsAre ys ys' → ys'.length ≤ 40 → Fr h₀ L h' m → News h₀ L h' ((P, listOf #[.ref C, .int 0 t1, .int 0 t2] k1) :: (C, listOf ys.toArray k2) :: news) → (∀ q ∈ news, q.1 ≠ P ∧ q.1 ≠ C) → Q (.ref P) { s with heap := h', toks := tk' }) :
  wpAny (model PySem.Challenge.rw_pb0473_01.row.prog w) A (call (.ref 290) [.ref sc]) Q E s := by
  obtain ⟨dp, un, gd, cn, cs, a, ccd, cl, outer, A₀, base, rfl, B, X, T, hk, hd', hu⟩ := S.x
  revert X; k_fill; intro X
  refine wpAny_call ?_
  k_dflt (refine' code_fs (act := []) (rest := news) ?k1 ?k2 ?k3 ?k4 ?kR ?kd ?k5 ?kA ?kF ?kK ?k6 ?k7 ?k8 ?k9 ?kB ?_ ?c2 ?c3 ?c4 ?c5; (case kA => exact rfl); (case kF => exact rfl); (case kK => assumption); (case k1 => exact B); (case k2 => exact F); (case k3 => exact X); (case k4 => exact News.nil); (case kR => exact N); (case kd => exact fun _ _ h => nomatch h); (case k5 => exact T); (case k6 => k_is); (case k7 => k_is); (case k8 => exact Nat.lt_of_le_of_lt (Nat.le_add_right _ _) hd'); (case k9 => exact BindsTo.of_eq rfl); (case c5 => decide); (case kB => exact locs rfl); (case c2 => exact rfl); (case c3 => exact rfl); (case c4 => exact rfl); k_whole)
  clear F N
  intro g' L' h' F' N' B' X' T' hR hS l1
  have hLs : g'.IsList sc vs.toArray := hsc.elim fun o h => ⟨o, hS _ _ h.1, h.2⟩; clear hsc
  refine cleanW ?_; (try dsimp only); k_fold
  k_steps
  all_goals (obtain ⟨z1, z2⟩ := pen_end hR (by assumption) (by assumption) (by assumption); rw [map_idI] at *; refine hret _ _ _ _ _ _ _ _ _ _ ?ne (by assumption) take40 (by assumption) (show News _ _ _ (_ :: (_, LCg.lst _) :: _) from z1) z2; omega)

end PenC
section Seg
open PySem PySem.W PyProof.Rows PySem.Spec PySem.Calls PyProof.Rows.LCg
theorem allNe_of {d : Addr} : ∀ {l : List (Addr × Obj)}, (∀ p ∈ l, p.1 ≠ d) → TLg.AllNe d l
  | [], _ => trivial
  | p :: _, h => ⟨h p (.head _), allNe_of fun q hq => h q (.tail _ hq)⟩
theorem allNe_two {d e : Addr} {l : List (Addr × Obj)} (h : ∀ p ∈ l, p.1 ≠ d ∧ p.1 ≠ e) : TLg.AllNe d l ∧ TLg.AllNe e l := ⟨allNe_of fun p hp => (h p hp).1, allNe_of fun p hp => (h p hp).2⟩
theorem look_two {K : Frag} {f : Addr} {o o' : Obj} {P : Prop} (e : K.lookup f = some o) (e' : K.lookup f = some o') (h : o = o' → P) : P := h (Option.some.inj (e.symm.trans e'))
def AllMem (l : List (Addr × Obj)) : List (Addr × Obj) → Prop
  | [] => True
  | p :: r => List.Mem p l ∧ AllMem l r
theorem News.of_mem {H h : Heap} {L : Addr} {l : List (Addr × Obj)} : ∀ {l' : List (Addr × Obj)}, AllMem l l' → News H L h l → News H L h l'
  | [], _, _ => fun _ h => nomatch h
  | _ :: _, ⟨a, b⟩, N => fun q hq => (List.mem_cons.mp hq).elim (fun e => by rw [e]; exact N _ a) (News.of_mem b N q)
theorem News.cons {H h : Heap} {L : Addr} {q : Addr × Obj} {l : List (Addr × Obj)} (a : News H L h [q]) (N : News H L h l) : News H L h (q :: l) := fun p hp => (List.mem_cons.mp hp).elim (fun e => by rw [e]; exact a _ (.head _)) (N p)
abbrev core (L P C : Addr) (ys : List Value) (k1 k2 : Nat) (spot carry : Int) (t1 t2 : Tok) (o1 c2 o3 c4 c5 : Obj) (tab : Array Value) : List (Addr × Obj) :=
  [(P, listOf #[.ref C, .int spot t1, .int carry t2] k1), (C, listOf ys.toArray k2), (L + 1 + 1 + 1 + 1 + 1, c5), (L + 1 + 1 + 1 + 1, c4), (L + 1 + 1 + 1, o3), (L + 1 + 1, c2), (L + 1, o1), (321, tabObj tab)]
structure CoreF (L P C : Addr) (o1 o3 : Obj) (n spot carry smax : Int) (tn : Tok) (ys : List Value) (yn : List Int) : Prop where
  l0 : @LT.lt Nat _ 321 L
  hn : 0 ≤ n ∧ n < 1024
  d1 : o1.data = .cell (some (.int n tn))
  d3 : o3.data = .cell (some (.ref P))
  hI : IntsAre ys yn
  hl : yn.length ≤ 40
  hs : 0 ≤ spot ∧ spot ≤ smax ∧ 0 ≤ carry
  nc : @Ne Nat C P
  ne2 : (@Ne Nat (L + 1 + 1 + 1 + 1 + 1) P ∧ @Ne Nat (L + 1 + 1 + 1 + 1) P ∧ @Ne Nat (L + 1 + 1 + 1) P ∧ @Ne Nat (L + 1 + 1) P ∧ @Ne Nat (L + 1) P ∧ @Ne Nat 321 P) ∧
    @Ne Nat (L + 1 + 1 + 1 + 1 + 1) C ∧ @Ne Nat (L + 1 + 1 + 1 + 1) C ∧ @Ne Nat (L + 1 + 1 + 1) C ∧ @Ne Nat (L + 1 + 1) C ∧ @Ne Nat (L + 1) C ∧ @Ne Nat 321 C
theorem execs_eq {env : Env} (b : List Stmt) : ∀ a : List Stmt, execs (a ++ b) env = (execs a env >>= fun f => match f with | .next => execs b env | f => pure f)
  | [] => by rw [List.nil_append, execs_nil, pure_bind]
  | x :: r => by
    rw [List.cons_append, execs_cons, execs_cons, execs_eq b r, bind_assoc]
    congr 1
    funext f
    cases f <;> simp [pure_bind]
theorem execs_app {M : Model} {A : Around} {E : Value → Shared → Prop} {env : Env} {b : List Stmt} {Q : Flow → Shared → Prop} {a : List Stmt} {s : Shared} (h : wpAny M A (execs a env) (fun f s' => match f with | .next => wpAny M A (execs b env) Q E s' | f => Q f s') E s) : wpAny M A (execs (a ++ b) env) Q E s := by
  rw [execs_eq]
  refine wpAny_bind (wpAny_mono h (fun f s' hf => ?_) fun _ _ e => e)
  cases f <;> first | exact hf | exact wpAny_pure hf

end Seg
section Cls1
open PySem PySem.W PyProof.Rows PySem.Spec PySem.Calls
theorem cls_dis {news : List (Addr × Obj)} {x d : Addr} {a b : Obj} (l1 : ∀ q ∈ news, q.1 < d) (l2 : d < x) : ∀ q ∈ news, q.1 ∉ [(x, a), (d, b)].map (·.1) := fun q hq hm => by
  rcases List.mem_cons.mp hm with e | hm
  · exact absurd (e ▸ Nat.lt_trans (l1 q hq) l2) (Nat.lt_irrefl _)
  · exact absurd ((List.mem_singleton.mp hm) ▸ l1 q hq) (Nat.lt_irrefl _)
theorem two_news {h₀ h : Heap} {L x d : Addr} {a b : Obj} {news : List (Addr × Obj)} (N : News h₀ L h [(x, a), (d, b)]) (O : News h₀ L h news) : News h₀ L h ((x, a) :: (d, b) :: news) := fun q hq => by
  rcases List.mem_cons.mp hq with rfl | hq
  · exact N _ (.head _)
  rcases List.mem_cons.mp hq with rfl | hq
  · exact N _ (.tail _ (.head _))
  · exact O q hq
set_option maxRecDepth 100000 in
set_option maxHeartbeats 8000000 in
theorem name_c {w : World} {p : Program} {loose : List Str} {mean : ExcName → Option Value} {mg mb : Str → Option Value} {A : Around} {h₀ : Heap} {L : Addr} {m : Str → Option Value} {s : Shared} {Q E : Value → Shared → Prop} {news : List (Addr × Obj)}
  {wd : Str} {tw : Tok}
  (S : At (pre.heap_1_39 w.params) p loose mean mg mb 5 A h₀ L) (F : Fr h₀ L s.heap m) (N : News h₀ L s.heap news) (hh : A.handled = none)
  (hret : ∀ (x d : Addr) (k0 : Int) (t0 : Tok) (n : Nat) (h' : Heap) (tk' : Nat), Fr h₀ L h' m → News h₀ L h' ((x, instObj 66 d) :: (d, dictOf [⟨k0, .str (Str.ofString "text") t0, .str wd tw⟩] n) :: news) → (∀ q ∈ news, q.1 < d) → d < x → Q (.ref x) { s with heap := h', toks := tk' }) :
  wpAny (model PySem.Challenge.rw_pb0473_01.row.prog w) A (call (.ref 66) [.str wd tw]) Q E s := by
  obtain ⟨dp, un, gd, cn, cs, a, ccd, cl, outer, A₀, base, rfl, B, X, T, hk, hd', hu⟩ := S.x
  revert X; k_fill; intro X
  k_dflt (refine' call_cls ?k1 ?k2 ?k3 ?k4 ?k5 ?k6 ?_; (case k1 => exact F); (case k2 => exact X); (case k3 => exact N); (case k4 => k_is); (case k5 => k_is); (case k6 => k_is); k_whole)
  intro x' d' h1 F1 N1 l1 l2
  k_dflt (refine' code_fs (h₀ := h₀) (rest := news) (act := [(x', instObj 66 d'), (d', dictOf [] 0)]) ?k1 ?k2 ?k3 ?k4 ?kR ?kd ?k5 ?kA ?kF ?kK ?k6 ?k7 ?k8 ?k9 ?kB ?_ ?c2 ?c3 ?c4 ?c5; (case kA => exact rfl); (case kF => exact rfl); (case kK => assumption); (case k1 => exact B); (case k2 => exact F1); (case k3 => exact X); (case k4 => exact fun q hq => N1 q (List.mem_append_left news hq)); (case kR => exact fun q hq => N1 q (List.mem_cons_of_mem _ (List.mem_cons_of_mem _ hq))); (case kd => exact cls_dis l1 l2); (case k5 => exact T); (case k6 => k_is); (case k7 => k_is); (case k8 => show dp + 1 < _; omega); (case k9 => first | exact BindsTo.of_eq rfl | exact binds_K (X.keeps F1.keep) rfl (by k_is) rfl rfl rfl); (case c5 => decide); (case kB => exact locs rfl); (case c2 => exact rfl); (case c3 => exact rfl); (case c4 => exact rfl); k_whole)
  intro g' L' h' F' N' B' X' T' hR hS l3
  k_lt l3
  have l4 : @LT.lt Nat _ d' x' := l2
  clear F N F1
  have hret' := fun k0 t0 n h' tk' a b c => hret x' d' k0 t0 n h' tk' a (two_news b c) l1 l2
  clear hret
  refine cleanW ?_; (try dsimp only); k_fold
  k_steps
  all_goals exact hret' _ _ _ _ _ (by assumption) (by assumption) (by assumption)
set_option maxRecDepth 100000 in
set_option maxHeartbeats 8000000 in
theorem refe_c {w : World} {p : Program} {loose : List Str} {mean : ExcName → Option Value} {mg mb : Str → Option Value} {A : Around} {h₀ : Heap} {L : Addr} {m : Str → Option Value} {s : Shared} {Q E : Value → Shared → Prop} {news : List (Addr × Obj)}
  {na nb : Int} {ta tb : Tok}
  (S : At (pre.heap_1_39 w.params) p loose mean mg mb 5 A h₀ L) (F : Fr h₀ L s.heap m) (N : News h₀ L s.heap news) (hh : A.handled = none)
  (hret : ∀ (x d : Addr) (k0 : Int) (t0 : Tok) (k1 : Int) (t1 : Tok) (n : Nat) (h' : Heap) (tk' : Nat), Fr h₀ L h' m → News h₀ L h' ((x, instObj 94 d) :: (d, dictOf [⟨k0, .str (Str.ofString "number") t0, .int na ta⟩, ⟨k1, .str (Str.ofString "generation") t1, .int nb tb⟩] n) :: news) → (∀ q ∈ news, q.1 < d) → d < x → Q (.ref x) { s with heap := h', toks := tk' }) :
  wpAny (model PySem.Challenge.rw_pb0473_01.row.prog w) A (call (.ref 94) [.int na ta, .int nb tb]) Q E s := by
  obtain ⟨dp, un, gd, cn, cs, a, ccd, cl, outer, A₀, base, rfl, B, X, T, hk, hd', hu⟩ := S.x
  revert X; k_fill; intro X
  k_dflt (refine' call_cls ?k1 ?k2 ?k3 ?k4 ?k5 ?k6 ?_; (case k1 => exact F); (case k2 => exact X); (case k3 => exact N); (case k4 => k_is); (case k5 => k_is); (case k6 => k_is); k_whole)
  intro x' d' h1 F1 N1 l1 l2
  k_dflt (refine' code_fs (h₀ := h₀) (rest := news) (act := [(x', instObj 94 d'), (d', dictOf [] 0)]) ?k1 ?k2 ?k3 ?k4 ?kR ?kd ?k5 ?kA ?kF ?kK ?k6 ?k7 ?k8 ?k9 ?kB ?_ ?c2 ?c3 ?c4 ?c5; (case kA => exact rfl); (case kF => exact rfl); (case kK => assumption); (case k1 => exact B); (case k2 => exact F1); (case k3 => exact X); (case k4 => exact fun q hq => N1 q (List.mem_append_left news hq)); (case kR => exact fun q hq => N1 q (List.mem_cons_of_mem _ (List.mem_cons_of_mem _ hq))); (case kd => exact cls_dis l1 l2); (case k5 => exact T); (case k6 => k_is); (case k7 => k_is); (case k8 => show dp + 1 < _; omega); (case k9 => first | exact BindsTo.of_eq rfl | exact binds_K (X.keeps F1.keep) rfl (by k_is) rfl rfl rfl); (case c5 => decide); (case kB => exact locs rfl); (case c2 => exact rfl); (case c3 => exact rfl); (case c4 => exact rfl); k_whole)
  intro g' L' h' F' N' B' X' T' hR hS l3
  k_lt l3
  have l4 : @LT.lt Nat _ d' x' := l2
  clear F N F1
  have hret' := fun k0 t0 k1 t1 n h' tk' a b c => hret x' d' k0 t0 k1 t1 n h' tk' a (two_news b c) l1 l2
  clear hret
  refine cleanW ?_; (try dsimp only); k_fold
  k_steps
  all_goals exact hret' _ _ _ _ _ _ _ (by assumption) (by assumption) (by assumption)
set_option maxRecDepth 100000 in
set_option maxHeartbeats 8000000 in
theorem deci_c {w : World} {p : Program} {loose : List Str} {mean : ExcName → Option Value} {mg mb : Str → Option Value} {A : Around} {h₀ : Heap} {L : Addr} {m : Str → Option Value} {s : Shared} {Q E : Value → Shared → Prop} {news : List (Addr × Obj)}
  {ta tb : Tok}
  (S : At (pre.heap_1_39 w.params) p loose mean mg mb 5 A h₀ L) (F : Fr h₀ L s.heap m) (N : News h₀ L s.heap news) (hh : A.handled = none)
  (hret : ∀ (x d : Addr) (k0 : Int) (t0 : Tok) (k1 : Int) (t1 : Tok) (n : Nat) (h' : Heap) (tk' : Nat), Fr h₀ L h' m → News h₀ L h' ((x, instObj 274 d) :: (d, dictOf [⟨k0, .str (Str.ofString "top") t0, .int 5 ta⟩, ⟨k1, .str (Str.ofString "places") t1, .int 1 tb⟩] n) :: news) → (∀ q ∈ news, q.1 < d) → d < x → Q (.ref x) { s with heap := h', toks := tk' }) :
  wpAny (model PySem.Challenge.rw_pb0473_01.row.prog w) A (call (.ref 274) [.int 5 ta, .int 1 tb]) Q E s := by
  obtain ⟨dp, un, gd, cn, cs, a, ccd, cl, outer, A₀, base, rfl, B, X, T, hk, hd', hu⟩ := S.x
  revert X; k_fill; intro X
  k_dflt (refine' call_cls ?k1 ?k2 ?k3 ?k4 ?k5 ?k6 ?_; (case k1 => exact F); (case k2 => exact X); (case k3 => exact N); (case k4 => k_is); (case k5 => k_is); (case k6 => k_is); k_whole)
  intro x' d' h1 F1 N1 l1 l2
  k_dflt (refine' code_fs (h₀ := h₀) (rest := news) (act := [(x', instObj 274 d'), (d', dictOf [] 0)]) ?k1 ?k2 ?k3 ?k4 ?kR ?kd ?k5 ?kA ?kF ?kK ?k6 ?k7 ?k8 ?k9 ?kB ?_ ?c2 ?c3 ?c4 ?c5; (case kA => exact rfl); (case kF => exact rfl); (case kK => assumption); (case k1 => exact B); (case k2 => exact F1); (case k3 => exact X); (case k4 => exact fun q hq => N1 q (List.mem_append_left news hq)); (case kR => exact fun q hq => N1 q (List.mem_cons_of_mem _ (List.mem_cons_of_mem _ hq))); (case kd => exact cls_dis l1 l2); (case k5 => exact T); (case k6 => k_is); (case k7 => k_is); (case k8 => show dp + 1 < _; omega); (case k9 => first | exact BindsTo.of_eq rfl | exact binds_K (X.keeps F1.keep) rfl (by k_is) rfl rfl rfl); (case c5 => decide); (case kB => exact locs rfl); (case c2 => exact rfl); (case c3 => exact rfl); (case c4 => exact rfl); k_whole)
  intro g' L' h' F' N' B' X' T' hR hS l3
  k_lt l3
  have l4 : @LT.lt Nat _ d' x' := l2
  clear F N F1
  have hret' := fun k0 t0 k1 t1 n h' tk' a b c => hret x' d' k0 t0 k1 t1 n h' tk' a (two_news b c) l1 l2
  clear hret
  refine cleanW ?_; (try dsimp only); k_fold
  k_steps
  all_goals exact hret' _ _ _ _ _ _ _ (by assumption) (by assumption) (by assumption)
set_option maxRecDepth 100000 in
set_option maxHeartbeats 8000000 in
theorem look_c {w : World} {p : Program} {loose : List Str} {mean : ExcName → Option Value} {mg mb : Str → Option Value} {A : Around} {h₀ : Heap} {L : Addr} {m : Str → Option Value} {s : Shared} {Q E : Value → Shared → Prop} {news : List (Addr × Obj)}
  {tab tra : Addr}
  (S : At (pre.heap_1_39 w.params) p loose mean mg mb 5 A h₀ L) (F : Fr h₀ L s.heap m) (N : News h₀ L s.heap news) (hh : A.handled = none)
  (hret : ∀ (x d : Addr) (k0 : Int) (t0 : Tok) (k1 : Int) (t1 : Tok) (n : Nat) (h' : Heap) (tk' : Nat), Fr h₀ L h' m → News h₀ L h' ((x, instObj 130 d) :: (d, dictOf [⟨k0, .str (Str.ofString "table") t0, .ref tab⟩, ⟨k1, .str (Str.ofString "trailer") t1, .ref tra⟩] n) :: news) → (∀ q ∈ news, q.1 < d) → d < x → Q (.ref x) { s with heap := h', toks := tk' }) :
  wpAny (model PySem.Challenge.rw_pb0473_01.row.prog w) A (call (.ref 130) [.ref tab, .ref tra]) Q E s := by
  obtain ⟨dp, un, gd, cn, cs, a, ccd, cl, outer, A₀, base, rfl, B, X, T, hk, hd', hu⟩ := S.x
  revert X; k_fill; intro X
  k_dflt (refine' call_cls ?k1 ?k2 ?k3 ?k4 ?k5 ?k6 ?_; (case k1 => exact F); (case k2 => exact X); (case k3 => exact N); (case k4 => k_is); (case k5 => k_is); (case k6 => k_is); k_whole)
  intro x' d' h1 F1 N1 l1 l2
  k_dflt (refine' code_fs (h₀ := h₀) (rest := news) (act := [(x', instObj 130 d'), (d', dictOf [] 0)]) ?k1 ?k2 ?k3 ?k4 ?kR ?kd ?k5 ?kA ?kF ?kK ?k6 ?k7 ?k8 ?k9 ?kB ?_ ?c2 ?c3 ?c4 ?c5; (case kA => exact rfl); (case kF => exact rfl); (case kK => assumption); (case k1 => exact B); (case k2 => exact F1); (case k3 => exact X); (case k4 => exact fun q hq => N1 q (List.mem_append_left news hq)); (case kR => exact fun q hq => N1 q (List.mem_cons_of_mem _ (List.mem_cons_of_mem _ hq))); (case kd => exact cls_dis l1 l2); (case k5 => exact T); (case k6 => k_is); (case k7 => k_is); (case k8 => show dp + 1 < _; omega); (case k9 => first | exact BindsTo.of_eq rfl | exact binds_K (X.keeps F1.keep) rfl (by k_is) rfl rfl rfl); (case c5 => decide); (case kB => exact locs rfl); (case c2 => exact rfl); (case c3 => exact rfl); (case c4 => exact rfl); k_whole)
  intro g' L' h' F' N' B' X' T' hR hS l3
  k_lt l3
  have l4 : @LT.lt Nat _ d' x' := l2
  clear F N F1
  have hret' := fun k0 t0 k1 t1 n h' tk' a b c => hret x' d' k0 t0 k1 t1 n h' tk' a (two_news b c) l1 l2
  clear hret
  refine cleanW ?_; (try dsimp only); k_fold
  k_steps
  all_goals exact hret' _ _ _ _ _ _ _ (by assumption) (by assumption) (by assumption)

end Cls1
section HBase
open PySem PySem.W PyProof.Rows PySem.Spec PySem.Calls PyProof.Rows.LCg
theorem va_self {kvs : List (Str × Value)} {k : Str} (h : valueAt kvs k = none) (v : Value) : valueAt (stored kvs k v) k = some v := by
  rw [stored_absent h]
  unfold valueAt at h ⊢
  rw [List.find?_append]
  have : kvs.find? (fun kv => decide (kv.1 = k)) = none := by
    cases e : kvs.find? (fun kv => decide (kv.1 = k)) with
    | none => rfl
    | some q => rw [e] at h; cases h
  rw [this]
  simp
theorem va_ne {kvs : List (Str × Value)} {k k' : Str} (h : valueAt kvs k = none) (v : Value) (hne : k ≠ k') : valueAt (stored kvs k v) k' = valueAt kvs k' := by
  rw [stored_absent h]
  unfold valueAt
  rw [List.find?_append]
  cases kvs.find? (fun kv => decide (kv.1 = k')) with
  | none => simp [hne]
  | some q => simp
theorem st_len {kvs : List (Str × Value)} {k : Str} (h : valueAt kvs k = none) (v : Value) : (stored kvs k v).length = kvs.length + 1 := by
  rw [stored_absent h, List.length_append, List.length_singleton]
theorem add_words {prog : Program} {w : World} {A : Around} {E : Value → Shared → Prop} {s : Shared} {h₀ : Heap} {L a b : Addr} {m : Str → Option Value} {news : List (Addr × Obj)} {vs us : List Value} {xs ys zs : List Str} {Q : Value → Shared → Prop}
    (F : Fr h₀ L s.heap m) (N : News h₀ L s.heap news) (ha : s.heap.IsList a vs.toArray) (hb : s.heap.IsList b us.toArray) (hi : StrsAre vs xs) (hj : StrsAre us ys) (hk : ys = zs) (hz : xs.length + zs.length ≤ 100)
    (h : ∀ D us h', Fr h₀ L h' m → News h₀ L h' ((D, listOf (List.toArray us) 0) :: news) → (∀ p ∈ news, p.1 < D) → StrsAre us (xs ++ zs) → Q (.ref D) { s with heap := h' }) : wpAny (model prog w) A (binaryOp .Add (.ref a) (.ref b)) Q E s := by
  subst hk
  exact add_lists F N ha hb (fun h' F' N' => h _ _ h' F' N' (fun p hp => Heap.lt_size (N p hp).1) (strs_app hi hj)) (by rw [strs_len hi, strs_len hj, sizeLine_eq]; omega)
/-- the words that a head may bear -/
abbrev wordsL : List Str := [Str.ofString "", Str.ofString "Link", Str.ofString "3D", Str.ofString "Odd", Str.ofString "link"] ++ kindsL
abbrev headM (P : Addr) (n : Int) (tn : Tok) : Str → Option Value := fun y => ([(Str.ofString "pen", Value.ref P), (Str.ofString "number", Value.int n tn)] : List (Str × Value)).reverse.lookup y
abbrev exL (r1 r2 r3 de nm d1 d2 d3 d4 d5 : Addr) (a1 b1 a2 b2 a3 b3 : Int) (s1 q1 s2 q2 s3 q3 u1 v1 u2 v2 u3 v3 : Tok) (n1 n2 n3 : Nat) (o4 o5 : Obj) : List (Addr × Obj) :=
  [(r1, instObj 94 d1), (d1, dictOf [⟨a1, .str (Str.ofString "number") s1, .int 1 u1⟩, ⟨b1, .str (Str.ofString "generation") q1, .int 0 v1⟩] n1),
   (r2, instObj 94 d2), (d2, dictOf [⟨a2, .str (Str.ofString "number") s2, .int 1 u2⟩, ⟨b2, .str (Str.ofString "generation") q2, .int 0 v2⟩] n2),
   (r3, instObj 94 d3), (d3, dictOf [⟨a3, .str (Str.ofString "number") s3, .int 2 u3⟩, ⟨b3, .str (Str.ofString "generation") q3, .int 0 v3⟩] n3),
   (de, instObj 274 d4), (d4, o4), (nm, instObj 66 d5), (d5, o5)]
theorem pick_val {prog : Program} {w : World} {A : Around} {E : Value → Shared → Prop} {s : Shared} {value slice : PySem.Expr} {l : Addr} {n way : Int} {u ta tb : Tok} {Q : Value → Shared → Prop} {r1 r2 r3 de nm d1 d2 d3 d4 d5 : Addr} {a1 b1 a2 b2 a3 b3 : Int} {s1 q1 s2 q2 s3 q3 u1 v1 u2 v2 u3 v3 : Tok} {n1 n2 n3 : Nat} {o4 o5 : Obj} {h₀ : Heap} {L : Addr} {news : List (Addr × Obj)} (_N : News h₀ L s.heap news)
    (hl : s.heap.IsList l #[.int n ta, .int n tb, .ref r1, .ref r2, .ref r3, .bool true, .ref de, .ref nm]) (_hm : AllMem news (exL r1 r2 r3 de nm d1 d2 d3 d4 d5 a1 b1 a2 b2 a3 b3 s1 q1 s2 q2 s3 q3 u1 v1 u2 v2 u3 v3 n1 n2 n3 o4 o5)) (h0 : 0 ≤ way ∧ way < 9) (hz : way ≠ 0)
    (h : ∀ v R, (∀ Hb, VIs Hb (exL r1 r2 r3 de nm d1 d2 d3 d4 d5 a1 b1 a2 b2 a3 b3 s1 q1 s2 q2 s3 q3 u1 v1 u2 v2 u3 v3 n1 n2 n3 o4 o5) n v R) → heldOf R = (if way < 5 then n else 0) → Q v s)
    (hs : subscripted slice false (.ref l) (.int (way - 1) u) = operate [.ref l, .int (way - 1) u] (getItem (.ref l) (.int (way - 1) u)) := by with_unfolding_all rfl) :
    wpAny (model prog w) A (subscriptTail value slice (.ref l) (.int (way - 1) u)) Q E s := by
  refine item_any (vs := [.int n ta, .int n tb, .ref r1, .ref r2, .ref r3, .bool true, .ref de, .ref nm]) hl ⟨by omega, by simp; omega⟩ (by simp) (fun v hv => ?_) hs
  have c : way = 1 ∨ way = 2 ∨ way = 3 ∨ way = 4 ∨ way = 5 ∨ way = 6 ∨ way = 7 ∨ way = 8 := by omega
  rcases c with rfl | rfl | rfl | rfl | rfl | rfl | rfl | rfl
  · obtain rfl : Value.int n ta = v := Option.some.inj hv
    exact h _ (.num n) (fun _ => .int n ta) (by rfl)
  · obtain rfl : Value.int n tb = v := Option.some.inj hv
    exact h _ (.num n) (fun _ => .int n tb) (by rfl)
  · obtain rfl : Value.ref r1 = v := Option.some.inj hv
    exact h _ (.num n) (fun _ => .ref1 (.inr (by k_mem)) (.inr (by k_mem))) (by rfl)
  · obtain rfl : Value.ref r2 = v := Option.some.inj hv
    exact h _ (.num n) (fun _ => .ref1 (dx := d2) (.inr (.tail _ (.tail _ (.head _)))) (.inr (.tail _ (.tail _ (.tail _ (.head _)))))) (by rfl)
  · obtain rfl : Value.ref r3 = v := Option.some.inj hv
    exact h _ (.val .none) (fun _ => .ref2 (dx := d3) (.inr (.tail _ (.tail _ (.tail _ (.tail _ (.head _)))))) (.inr (.tail _ (.tail _ (.tail _ (.tail _ (.tail _ (.head _)))))))) (by rfl)
  · obtain rfl : Value.bool true = v := Option.some.inj hv
    exact h _ (.val (.bool true)) (fun _ => .bool true) (by rfl)
  · obtain rfl : Value.ref de = v := Option.some.inj hv
    exact h _ (.val (.ref de)) (fun _ => .deci (dx := d4) (ox := o4) (.inr (.tail _ (.tail _ (.tail _ (.tail _ (.tail _ (.tail _ (.head _)))))))) (.inr (.tail _ (.tail _ (.tail _ (.tail _ (.tail _ (.tail _ (.tail _ (.head _)))))))))) (by rfl)
  · obtain rfl : Value.ref nm = v := Option.some.inj hv
    exact h _ (.val (.ref nm)) (fun _ => .name (dx := d5) (ox := o5) (.inr (.tail _ (.tail _ (.tail _ (.tail _ (.tail _ (.tail _ (.tail _ (.tail _ (.head _)))))))))) (.inr (.tail _ (.tail _ (.tail _ (.tail _ (.tail _ (.tail _ (.tail _ (.tail _ (.tail _ (.head _)))))))))))) (by rfl)
structure HeadF (g : Heap) (P Cc : Addr) (n spot carry smax : Int) (ys : List Value) (yn : List Int) (k2 : Nat) : Prop where
  hn : 0 ≤ n ∧ n < 1024
  hc : g.get? Cc = some (listOf ys.toArray k2)
  hI : IntsAre ys yn
  hl : yn.length ≤ 40
  hs : 0 ≤ spot ∧ spot ≤ smax ∧ 0 ≤ carry
  nc : @Ne Nat Cc P

end HBase
section LawH1
open PySem PySem.W PyProof.Rows PySem.Spec PySem.Calls PyProof.Rows.LCg
local macro_rules | `(tactic| walk_at "call ref") => sq [shw 297 "ri", kd [rf ``draw_c ". . km kS kF kN kU kc kne kI kL ks _", css "km:d kS:at kF:k kN:k kU:u kc:ia kne:a kI:a kL:a ks:ao", ys "w"], ins "d' t' spot' t1' carry' t2' h' tk' hd' hs' F' N'", ys "dN sw ds"]
def lf_56 : Lean.MacroM Tc := `(tactic| (refine' pick_c (ws := wordsL) ?kW ?km ?kS ?kF ?kN ?kU ?kc ?kne ?kso ?kne2 ?kI ?kL ?ks ?_))
local macro_rules | `(tactic| walk_at "call ref") => sq [shw 304 "rr", kd [lf_56, css "kF:k kN:k kU:u kso:ir kW:a km:dd kS:at kc:ia kne:a kne2:nn kI:a kL:a ks:ao", ys "w"], ins "x' t' spot' t1' carry' t2' h' tk' hx' hs' F' N'", ys "dN sw ds"]
def lf_57 : Lean.MacroM Tc := `(tactic| (with_reducible show wpAny _ _ (binaryOp _ (Value.ref _) (Value.ref _)) _ _ _))
def lf_58 : Lean.MacroM Tc := `(tactic| (refine' add_words (zs := kindsL) ?F ?N ?a ?b ?i ?j ?e ?z ?_))
def lf_59 : Lean.MacroM Tc := `(tactic| (exact Eq.trans (by assumption) (by decide +kernel)))
local macro_rules | `(tactic| walk_at "binaryOp Add ref ref") => sq [ys "h", lf_57, kd [lf_58, css "F:k N:k a:il b:il i:rc j:a", cs "e" lf_59, css "z:d"], ins "D' us' h' F' N' l1 hI'", ys "l1 ds"]
def lf_60 : Lean.MacroM Tc := `(tactic| (refine' kda_set (knd := PySem.strKind _ _) ?F ?N ?U ?d (strKind_is _ _ _ _) ?z ?_))
def lf_61 : Lean.MacroM Tc := `(tactic| (rw [sizeLine_eq]; first | exact Nat.le_of_ble_eq_true (by with_unfolding_all rfl) | omega))
local macro_rules | `(tactic| walk_at "setItem ref str") => sq [ys "h", kd [lf_60, css "F:k N:k U:u d:k", cs "z" lf_61], ins "h' o' F' N' hd'", ys "dN ds"]
local macro_rules | `(tactic| walk_at "call ref") => sq [shw 66 "_", kd [rf ``name_c "kS kF kN kh _", css "kS:at kF:k kN:k kh:r"], ins "x' d' ka0' ta0' n' h' tk' F' N' l1 l2", ys "l1 l2 ds"]
local macro_rules | `(tactic| walk_at "call ref") => sq [shw 94 "_", kd [rf ``refe_c "kS kF kN kh _", css "kS:at kF:k kN:k kh:r"], ins "x' d' ka0' ta0' ka1' ta1' n' h' tk' F' N' l1 l2", ys "l1 l2 ds"]
local macro_rules | `(tactic| walk_at "call ref") => sq [shw 274 "_", kd [rf ``deci_c "kS kF kN kh _", css "kS:at kF:k kN:k kh:r"], ins "x' d' ka0' ta0' ka1' ta1' n' h' tk' F' N' l1 l2", ys "l1 l2 ds"]
local macro_rules | `(tactic| walk_at "call ref") => sq [shw 130 "_", kd [rf ``look_c "kS kF kN kh _", css "kS:at kF:k kN:k kh:r"], ins "x' d' ka0' ta0' ka1' ta1' n' h' tk' F' N' l1 l2", ys "l1 l2 ds"]
set_option maxRecDepth 100000 in
set_option maxHeartbeats 8000000 in
theorem hseg1 {w : World} {p : Program} {loose : List Str} {mean : ExcName → Option Value} {mg mb : Str → Option Value} {base g : Heap} {L L0 a a0 : Addr} {s : Shared} {Q : Flow → Shared → Prop} {E : Value → Shared → Prop}
  {dp un : Nat} {gd : Option (List Code)} {cn : Str} {cs : Scope} {ccd : Value} {cl : List (Str × Addr)} {outer : List Env}
  {name qual : Str} {params : Arguments} {body : List Stmt} {scope : Scope} {dV kV doc pm cdv ct oc : Value} {an od : Option Addr} {osl : Array (Option Value)}
  (ho : (pre.heap_1_39 w.params).lookup 319 = some ⟨oc, od, .func (fnOf name qual params body scope dV kV doc pm an cdv ct), osl⟩)
  (X : (pre.heap_1_39 w.params).In g) (T : Top p loose mean mg mb g) (B : Below (ktrTop dp un gd cn cs L0 a0 ccd cl outer) base (envX cn cs L0 a0 ccd cl :: outer) g) (hd' : dp + 12 < recursionLimit) (hu : un + 8 * 12 + 100 < cLine)
  {P Cc : Addr} {ys : List Value} {yn : List Int} {k1 k2 : Nat} {n spot carry smax : Int} {tn t1 t2 : Tok} (F : Fr g L s.heap (headM P n tn)) (N : News g L s.heap [(P, listOf #[.ref Cc, .int spot t1, .int carry t2] k1)]) (HF : HeadF g P Cc n spot carry smax ys yn k2) (hsm : smax ≤ 50)
  (hnext : ∀ hx oh kvs x tx extra spot' carry' t1' t2' h' tk', (0 ≤ spot' ∧ spot' ≤ spot + 2 ∧ 0 ≤ carry') → Fr g L h' (fun y => if y = Str.ofString "head" then some (.ref hx) else if y = Str.ofString "word" then some (.str x tx) else headM P n tn y) →
    News g L h' ((hx, oh) :: (P, listOf #[.ref Cc, .int spot' t1', .int carry' t2'] k1) :: extra) → (@Ne Nat hx P) → (∀ q ∈ extra, q.1 ≠ P) → (∀ q ∈ extra, q.1 ≠ hx) → Obj.IsDictOf (PySem.strKind PySem.Challenge.rw_pb0473_01.row.prog w) oh kvs → kvs.length ≤ 1 → valueAt kvs (Str.ofString "F") = none →
    (∀ Hb, KIs Hb extra ((valueAt kvs (Str.ofString "Subtype")).getD .none) x) → x ∈ wordsL → (hx == sysModules) = false → Q .next { s with heap := h', toks := tk' }) :
  wpAny (model PySem.Challenge.rw_pb0473_01.row.prog w) ((ktrTop dp un gd cn cs L0 a0 ccd cl outer).deeper (envOf qual scope L a cdv)) (execs ((body.drop 0).take 2) (envOf qual scope L a cdv)) Q E s := by
  revert X; k_fill; intro X
  k_dflt (refine' look_two ?e ho ?_; (case e => k_is))
  intro h2
  cases h2
  clear ho
  obtain ⟨hn, hc, hI, hl, hs, nc⟩ := HF
  refine cleanW ?_; (try dsimp only [List.drop, List.take]); (try k_fold)
  k_steps
  all_goals (try dsimp only)
  · (k_dflt (refine' hnext _ _ _ _ _ [(_, instObj 66 _), (_, dictOf [⟨_, .str (Str.ofString "text") _, .str _ _⟩] _)] _ _ _ _ _ _ ?hs1 ?F1 ?N1 ?ne1 ?nP1 ?nH1 ?d1 ?l1 ?vF1 ?K1 ?hx1 ?lo1; (case F1 => assumption); (case d1 => assumption); (case N1 => (refine News.of_mem ?_ (by assumption : News g L _ (_ :: _)); exact ⟨by k_mem, by k_mem, by k_mem, by k_mem,  trivial⟩)); (case ne1 => (refine neN ?_; (try dsimp only); omega)); (case nP1 => k_all); (case nH1 => k_all); (case l1 => first | exact Nat.le_of_eq (st_len rfl _) | exact Nat.zero_le _); (case vF1 => first | exact va_ne rfl _ (by decide +kernel) | rfl); (case K1 => (intro Hb; rw [va_self rfl]; exact .name (.inr (.head _)) (.inr (.tail _ (.head _))))); (case hx1 => assumption); (case lo1 => assumption); (case hs1 => omega)))
  · (k_dflt (refine' hnext _ _ _ _ _ [] _ _ _ _ _ _ ?hs2 ?F2 ?N2 ?ne2 ?nP2 ?nH2 ?d2 ?l2 ?vF2 ?K2 ?hx2 ?lo2; (case F2 => assumption); (case d2 => assumption); (case N2 => (refine News.of_mem ?_ (by assumption : News g L _ (_ :: _)); exact ⟨by k_mem, by k_mem,  trivial⟩)); (case ne2 => (refine neN ?_; (try dsimp only); omega)); (case nP2 => k_all); (case nH2 => k_all); (case l2 => first | exact Nat.le_of_eq (st_len rfl _) | exact Nat.zero_le _); (case vF2 => first | exact va_ne rfl _ (by decide +kernel) | rfl); (case K2 => (intro Hb; have e9 := bne_eq_false_iff_eq.mp (by assumption : (_ != Str.ofString "") = false); rw [va_self rfl, e9]; exact .int _ _)); (case hx2 => assumption); (case lo2 => assumption); (case hs2 => omega)))
  · (k_dflt (refine' hnext _ _ _ _ _ [] _ _ _ _ _ _ ?hs3 ?F3 ?N3 ?ne3 ?nP3 ?nH3 ?d3 ?l3 ?vF3 ?K3 ?hx3 ?lo3; (case F3 => assumption); (case d3 => assumption); (case N3 => (refine News.of_mem ?_ (by assumption : News g L _ (_ :: _)); exact ⟨by k_mem, by k_mem,  trivial⟩)); (case ne3 => (refine neN ?_; (try dsimp only); omega)); (case nP3 => k_all); (case nH3 => k_all); (case l3 => first | exact Nat.le_of_eq (st_len rfl _) | exact Nat.zero_le _); (case vF3 => first | exact va_ne rfl _ (by decide +kernel) | rfl); (case K3 => (intro Hb; have e9 := bne_eq_false_iff_eq.mp (by assumption : (_ != Str.ofString "") = false); rw [e9]; exact .none)); (case hx3 => assumption); (case lo3 => assumption); (case hs3 => omega)))

end LawH1
section LawH2
open PySem PySem.W PyProof.Rows PySem.Spec PySem.Calls PyProof.Rows.LCg
local macro_rules | `(tactic| walk_at "call ref") => sq [shw 297 "ri", kd [rf ``draw_c ". . km kS kF kN kU kc kne kI kL ks _", css "km:d kS:at kF:k kN:k kU:u kc:ia kne:a kI:a kL:a ks:ao", ys "w"], ins "d' t' spot' t1' carry' t2' h' tk' hd' hs' F' N'", ys "dN sw ds"]
local macro_rules | `(tactic| walk_at "setItem ref str") => sq [ys "h", kd [lf_60, css "F:k N:k U:u d:k", cs "z" lf_61], ins "h' o' F' N' hd'", ys "dN ds"]
local macro_rules | `(tactic| walk_at "call ref") => sq [shw 66 "_", kd [rf ``name_c "kS kF kN kh _", css "kS:at kF:k kN:k kh:r"], ins "x' d' ka0' ta0' n' h' tk' F' N' l1 l2", ys "l1 l2 ds"]
local macro_rules | `(tactic| walk_at "call ref") => sq [shw 94 "_", kd [rf ``refe_c "kS kF kN kh _", css "kS:at kF:k kN:k kh:r"], ins "x' d' ka0' ta0' ka1' ta1' n' h' tk' F' N' l1 l2", ys "l1 l2 ds"]
local macro_rules | `(tactic| walk_at "call ref") => sq [shw 274 "_", kd [rf ``deci_c "kS kF kN kh _", css "kS:at kF:k kN:k kh:r"], ins "x' d' ka0' ta0' ka1' ta1' n' h' tk' F' N' l1 l2", ys "l1 l2 ds"]
local macro_rules | `(tactic| walk_at "call ref") => sq [shw 130 "_", kd [rf ``look_c "kS kF kN kh _", css "kS:at kF:k kN:k kh:r"], ins "x' d' ka0' ta0' ka1' ta1' n' h' tk' F' N' l1 l2", ys "l1 l2 ds"]
local macro_rules | `(tactic| k_all) => `(tactic| assumption)
def lf_62 : Lean.MacroM Tc := `(tactic| (exact ⟨by k_mem, by k_mem, by k_mem, by k_mem, by k_mem, by k_mem, by k_mem, by k_mem, by k_mem, by k_mem, trivial⟩))
local macro_rules | `(tactic| walk_at "subscriptTail") => sq [ys "h", lf_12, wu [rf ``pick_val "kN kl km kh kz _ k6", css "kN:k kl:il", cs "km" lf_62, css "kh:a kz:a k6:ur", ys "w"], ins "v' R' hv' hR'"]
set_option maxRecDepth 100000 in
set_option maxHeartbeats 8000000 in
theorem hseg2 {w : World} {p : Program} {loose : List Str} {mean : ExcName → Option Value} {mg mb : Str → Option Value} {base g : Heap} {L L0 a a0 : Addr} {s : Shared} {Q : Flow → Shared → Prop} {E : Value → Shared → Prop}
  {dp un : Nat} {gd : Option (List Code)} {cn : Str} {cs : Scope} {ccd : Value} {cl : List (Str × Addr)} {outer : List Env}
  {name qual : Str} {params : Arguments} {body : List Stmt} {scope : Scope} {dV kV doc pm cdv ct oc : Value} {an od : Option Addr} {osl : Array (Option Value)}
  (ho : (pre.heap_1_39 w.params).lookup 319 = some ⟨oc, od, .func (fnOf name qual params body scope dV kV doc pm an cdv ct), osl⟩)
  (X : (pre.heap_1_39 w.params).In g) (T : Top p loose mean mg mb g) (B : Below (ktrTop dp un gd cn cs L0 a0 ccd cl outer) base (envX cn cs L0 a0 ccd cl :: outer) g) (hd' : dp + 12 < recursionLimit) (hu : un + 8 * 12 + 100 < cLine)
  {P Cc : Addr} {ys : List Value} {yn : List Int} {k1 k2 : Nat} {n spot carry smax : Int} {tn t1 t2 : Tok} {hx : Addr} {oh : Obj} {kvs : List (Str × Value)} {x : Str} {tx : Tok} {extra : List (Addr × Obj)} (F : Fr g L s.heap (fun y => if y = Str.ofString "head" then some (.ref hx) else if y = Str.ofString "word" then some (.str x tx) else headM P n tn y))
  (N : News g L s.heap ((hx, oh) :: (P, listOf #[.ref Cc, .int spot t1, .int carry t2] k1) :: extra)) (HF : HeadF g P Cc n spot carry smax ys yn k2) (hsm : smax ≤ 52) (hHP : @Ne Nat hx P) (hxP : ∀ q ∈ extra, q.1 ≠ P) (hxH : ∀ q ∈ extra, q.1 ≠ hx) (hdk : Obj.IsDictOf (PySem.strKind PySem.Challenge.rw_pb0473_01.row.prog w) oh kvs) (hkl : kvs.length ≤ 1) (hvF : valueAt kvs (Str.ofString "F") = none)
  (hnext : ∀ tp oh' kvs' R held extra2 spot' carry' t1' t2' th h' tk' m', (0 ≤ spot' ∧ spot' ≤ spot + 1 ∧ 0 ≤ carry') → Fr g L h' m' → News g L h' ((tp, (⟨.type "tuple", none, .seq #[.ref hx, .str x tx, .int held th] 0, #[]⟩ : Obj)) :: (hx, oh') :: (P, listOf #[.ref Cc, .int spot' t1', .int carry' t2'] k1) :: extra2) → News g L h' extra → (∀ q ∈ extra2, q.1 ≠ P) → (∀ q ∈ extra2, q.1 ≠ hx) → @Ne Nat tp P → @Ne Nat tp hx → Obj.IsDictOf (PySem.strKind PySem.Challenge.rw_pb0473_01.row.prog w) oh' kvs' → kvs'.length ≤ 2 → valueAt kvs' (Str.ofString "Subtype") = valueAt kvs (Str.ofString "Subtype") →
    (∀ Hb, VIs Hb extra2 n ((valueAt kvs' (Str.ofString "F")).getD .none) R) → heldOf R = held → (0 ≤ held ∧ held < 1024) → Q (.ret (.ref tp)) { s with heap := h', toks := tk' }) :
  wpAny (model PySem.Challenge.rw_pb0473_01.row.prog w) ((ktrTop dp un gd cn cs L0 a0 ccd cl outer).deeper (envOf qual scope L a cdv)) (execs ((body.drop 2).take 4) (envOf qual scope L a cdv)) Q E s := by
  revert X; k_fill; intro X
  k_dflt (refine' look_two ?e ho ?_; (case e => k_is))
  intro h2
  cases h2
  clear ho
  obtain ⟨hn, hc, hI, hl, hs, nc⟩ := HF
  refine cleanW ?_; (try dsimp only [List.drop, List.take]); (try k_fold)
  k_steps
  all_goals (try dsimp only)
  · (k_dflt (refine' hnext _ _ _ _ _ _ _ _ _ _ _ _ _ _ ?hs1 ?F1 ?N1 ?NE1 ?eP1 ?eH1 ?tP1 ?tH1 ?d1 ?l1 ?vS1 ?V1 ?hR1 ?hb1; (case d1 => assumption); (case V1 => (intro Hb; rw [hvF]; exact (VIs.none : VIs Hb [] n .none (.val .none)))); (case hR1 => exact rfl); (case F1 => assumption); (case N1 => (refine News.of_mem ?_ (by assumption : News g L _ (_ :: _)); exact ⟨by k_mem, by k_mem, by k_mem,  trivial⟩)); (case NE1 => (intro q hq; exact (by assumption : News g L _ (_ :: _)) q (by (repeat' first | exact hq | refine List.Mem.tail _ ?_)))); (case eP1 => k_all); (case eH1 => k_all); (case tP1 => (refine neN ?_; (try dsimp only); omega)); (case tH1 => (refine neN ?_; (try dsimp only); omega)); (case l1 => omega); (case vS1 => exact rfl); (case hs1 => assumption); (case hb1 => first | exact hn | exact ⟨Int.le_refl _, by decide⟩)))
  · (k_dflt (refine' hnext _ _ _ _ _ _ _ _ _ _ _ _ _ _ ?hs2 ?F2 ?N2 ?NE2 ?eP2 ?eH2 ?tP2 ?tH2 ?d2 ?l2 ?vS2 ?V2 ?hR2 ?hb2; (case d2 => assumption); (case V2 => (intro Hb; rw [va_self hvF]; exact (by assumption : ∀ Hb, VIs Hb _ _ _ _) Hb)); (case hR2 => exact (by assumption : heldOf _ = ite _ _ _).trans (if_pos (by assumption))); (case F2 => assumption); (case N2 => (refine News.of_mem ?_ (by assumption : News g L _ (_ :: _)); exact ⟨by k_mem, by k_mem, by k_mem, by k_mem, by k_mem, by k_mem, by k_mem, by k_mem, by k_mem, by k_mem, by k_mem, by k_mem, by k_mem,  trivial⟩)); (case NE2 => (intro q hq; exact (by assumption : News g L _ (_ :: _)) q (by (repeat' first | exact hq | refine List.Mem.tail _ ?_)))); (case eP2 => k_all); (case eH2 => k_all); (case tP2 => (refine neN ?_; (try dsimp only); omega)); (case tH2 => (refine neN ?_; (try dsimp only); omega)); (case l2 => (rw [st_len hvF]; omega)); (case vS2 => exact va_ne hvF _ (by decide +kernel)); (case hs2 => assumption); (case hb2 => first | exact hn | exact ⟨Int.le_refl _, by decide⟩)))
  · (k_dflt (refine' hnext _ _ _ _ _ _ _ _ _ _ _ _ _ _ ?hs3 ?F3 ?N3 ?NE3 ?eP3 ?eH3 ?tP3 ?tH3 ?d3 ?l3 ?vS3 ?V3 ?hR3 ?hb3; (case d3 => assumption); (case V3 => (intro Hb; rw [va_self hvF]; exact (by assumption : ∀ Hb, VIs Hb _ _ _ _) Hb)); (case hR3 => exact (by assumption : heldOf _ = ite _ _ _).trans (if_neg (by assumption))); (case F3 => assumption); (case N3 => (refine News.of_mem ?_ (by assumption : News g L _ (_ :: _)); exact ⟨by k_mem, by k_mem, by k_mem, by k_mem, by k_mem, by k_mem, by k_mem, by k_mem, by k_mem, by k_mem, by k_mem, by k_mem, by k_mem,  trivial⟩)); (case NE3 => (intro q hq; exact (by assumption : News g L _ (_ :: _)) q (by (repeat' first | exact hq | refine List.Mem.tail _ ?_)))); (case eP3 => k_all); (case eH3 => k_all); (case tP3 => (refine neN ?_; (try dsimp only); omega)); (case tH3 => (refine neN ?_; (try dsimp only); omega)); (case l3 => (rw [st_len hvF]; omega)); (case vS3 => exact va_ne hvF _ (by decide +kernel)); (case hs3 => assumption); (case hb3 => first | exact hn | exact ⟨Int.le_refl _, by decide⟩)))

end LawH2
section HeadC
open PySem PySem.W PyProof.Rows PySem.Spec PySem.Calls PyProof.Rows.LCg
theorem Live.sub {h : Heap} {l l' : List (Addr × Obj)} {a : Addr} {o : Obj} (s : ∀ q ∈ l, q ∈ l') (x : Live h l a o) : Live h l' a o := x.imp id (s (a, o))
theorem VIs.sub {h : Heap} {l l' : List (Addr × Obj)} {num : Int} {v : Value} {R : Res} (s : ∀ q ∈ l, q ∈ l') (V : VIs h l num v R) : VIs h l' num v R := by
  cases V with
  | int n t => exact .int n t
  | none => exact .none
  | bool b => exact .bool b
  | name h1 h2 => exact .name (h1.sub s) (h2.sub s)
  | deci h1 h2 => exact .deci (h1.sub s) (h2.sub s)
  | ref1 h1 h2 => exact .ref1 (h1.sub s) (h2.sub s)
  | ref2 h1 h2 => exact .ref2 (h1.sub s) (h2.sub s)
theorem KIs.sub {h : Heap} {l l' : List (Addr × Obj)} {v : Value} {word : Str} (s : ∀ q ∈ l, q ∈ l') (V : KIs h l v word) : KIs h l' v word := by
  cases V with
  | int n t => exact .int n t
  | none => exact .none
  | name h1 h2 => exact .name (h1.sub s) (h2.sub s)
theorem ShelfIs.sub {w : World} {h : Heap} {l l' : List (Addr × Obj)} {sh : Addr} {num : Int} (s : ∀ q ∈ l, q ∈ l') (S : ShelfIs w h l sh num) : ShelfIs w h l' sh num := by
  obtain ⟨dsh, tb, tr, tp, k3, k4, t3, t4, u3, u4, n2, n4, ot, a1, a2, a3, a4, a5, a6⟩ := S.x
  exact ⟨⟨dsh, tb, tr, tp, k3, k4, t3, t4, u3, u4, n2, n4, ot, a1.sub s, a2.sub s, a3.sub s, a4, a5, a6.sub s⟩⟩
/-- new objects apart from the old ones, written out -/
def AllNe3 (a b : Addr) (new : List (Addr × Obj)) : List (Addr × Obj) → Prop
  | [] => True
  | p :: r => (@Ne Nat p.1 a ∧ @Ne Nat p.1 b ∧ ∀ q ∈ new, q.1 ≠ p.1) ∧ AllNe3 a b new r
theorem ne3_of {a b : Addr} {new : List (Addr × Obj)} : ∀ {l : List (Addr × Obj)}, (∀ q ∈ l, q.1 ≠ a ∧ q.1 ≠ b ∧ ∀ r ∈ new, q.1 ≠ r.1) → AllNe3 a b new l
  | [], _ => trivial
  | p :: _, h => ⟨⟨(h p (.head _)).1, (h p (.head _)).2.1, fun q hq e => (h p (.head _)).2.2 q hq e.symm⟩, ne3_of fun q hq => h q (.tail _ hq)⟩
theorem hd_join {H h : Heap} {L : Addr} {a b : Addr × Obj} {l new : List (Addr × Obj)} (N1 : News H L h l) (N2 : News H L h (a :: b :: new)) : News H L h (a :: b :: (l ++ new)) := fun q hq => by
  rcases List.mem_cons.mp hq with rfl | hq
  · exact N2 _ (.head _)
  rcases List.mem_cons.mp hq with rfl | hq
  · exact N2 _ (.tail _ (.head _))
  rcases List.mem_append.mp hq with hq | hq
  · exact N1 q hq
  · exact N2 q (.tail _ (.tail _ hq))
structure ShF (w : World) (ex : List (Addr × Obj)) (P sh hx : Addr) (n held : Int) (x : Str) (R : Res) (oh : Obj) (kvs : List (Str × Value)) : Prop where
  S : ∀ Hb, ShelfIs w Hb ex sh n
  hm : (hx, oh) ∈ ex
  hd : Obj.IsDictOf (PySem.strKind PySem.Challenge.rw_pb0473_01.row.prog w) oh kvs
  V : ∀ Hb, VIs Hb ex n ((valueAt kvs (Str.ofString "F")).getD .none) R
  K : ∀ Hb, KIs Hb ex ((valueAt kvs (Str.ofString "Subtype")).getD .none) x
  hR : heldOf R = held
  hx' : x ∈ wordsL
  lo : (hx == sysModules) = false
  eP : ∀ q ∈ ex, q.1 ≠ P
  e321 : ∀ q ∈ ex, q.1 ≠ 321
  hb : 0 ≤ held ∧ held < 1024
abbrev six (n : Int) (hx sh dsh tb tr tup : Addr) (oh ob oc : Obj) (k3 k4 : Int) (t3 t4 u3 u4 : Tok) (n2 : Nat) : List (Addr × Obj) :=
  [(hx, oh), (sh, instObj 130 dsh), (dsh, dictOf [⟨k3, .str (Str.ofString "table") t3, .ref tb⟩, ⟨k4, .str (Str.ofString "trailer") t4, .ref tr⟩] n2), (tup, (⟨.type "tuple", none, .seq #[.int 0 u3, .int n u4] 0, #[]⟩ : Obj)), (tb, ob), (tr, oc)]
theorem six_shelf {w : World} {n : Int} {hx sh dsh tb tr tup : Addr} {oh ob oc : Obj} {k3 k4 : Int} {t3 t4 u3 u4 : Tok} {n2 : Nat} {new : List (Addr × Obj)} (hd : ob.IsDictOf (intKind PySem.Challenge.rw_pb0473_01.row.prog w) [((1 : Int), Value.ref tup)]) (lo : (tb == sysModules) = false) :
    ∀ Hb, ShelfIs w Hb (six n hx sh dsh tb tr tup oh ob oc k3 k4 t3 t4 u3 u4 n2 ++ new) sh n := fun _ =>
  ⟨⟨dsh, tb, tr, tup, k3, k4, t3, t4, u3, u4, n2, 0, ob, .inr (.tail _ (.head _)), .inr (.tail _ (.tail _ (.head _))), .inr (.tail _ (.tail _ (.tail _ (.tail _ (.head _))))), hd, lo, .inr (.tail _ (.tail _ (.tail _ (.head _))))⟩⟩
theorem execs_cut2 {M : Model} {A : Around} {E : Value → Shared → Prop} {env : Env} {body : List Stmt} {Q : Flow → Shared → Prop} {s : Shared} (h : body.length = 6) (H : wpAny M A (execs ((body.drop 0).take 2 ++ (body.drop 2).take 4) env) Q E s) : wpAny M A (execs body env) Q E s := by
  have e : (body.drop 0).take 2 ++ (body.drop 2).take 4 = body := by
    rw [List.take_of_length_le (show (body.drop 2).length ≤ 4 by rw [List.length_drop]; omega)]
    exact List.take_append_drop 2 body
  rw [e] at H; exact H
set_option maxRecDepth 100000 in
set_option maxHeartbeats 8000000 in
theorem head_c {w : World} {p : Program} {loose : List Str} {mean : ExcName → Option Value} {mg mb : Str → Option Value} {A : Around} {h₀ : Heap} {L : Addr} {m : Str → Option Value} {s : Shared} {Q E : Value → Shared → Prop}
  {P Cc : Addr} {ys : List Value} {yn : List Int} {n spot carry : Int} {tn t1 t2 : Tok} {k k2 : Nat} {news : List (Addr × Obj)} {fn : Obj → List (Addr × Obj)}
  (S : At (pre.heap_1_39 w.params) p loose mean mg mb 16 A h₀ L) (F : Fr h₀ L s.heap m) (N : News h₀ L s.heap news)
  (U : UpdF P (listOf #[.ref Cc, .int spot t1, .int carry t2] k) news fn) (hc : Live h₀ news Cc (listOf ys.toArray k2)) (hne : @Ne Nat Cc P) (hn : 0 ≤ n ∧ n < 1024)
  (hI : IntsAre ys yn) (hL : yn.length ≤ 40) (hs : 0 ≤ spot ∧ spot ≤ 10 ∧ 0 ≤ carry)
  (hret : ∀ tp hx oh kvs x tx th R held new spot' carry' t1' t2' h' tk', (0 ≤ spot' ∧ spot' ≤ spot + 3 ∧ 0 ≤ carry') → Fr h₀ L h' m → News h₀ L h' (fn (listOf #[.ref Cc, .int spot' t1', .int carry' t2'] k)) →
    News h₀ L h' ((tp, (⟨.type "tuple", none, .seq #[.ref hx, .str x tx, .int held th] 0, #[]⟩ : Obj)) :: (hx, oh) :: new) → (∀ q ∈ news, q.1 ≠ tp ∧ q.1 ≠ hx ∧ ∀ r ∈ new, q.1 ≠ r.1) →
    Obj.IsDictOf (PySem.strKind PySem.Challenge.rw_pb0473_01.row.prog w) oh kvs → (∀ Hb, VIs Hb new n ((valueAt kvs (Str.ofString "F")).getD .none) R) → heldOf R = held → (0 ≤ held ∧ held < 1024) →
    (∀ Hb, KIs Hb new ((valueAt kvs (Str.ofString "Subtype")).getD .none) x) → x ∈ wordsL → (hx == sysModules) = false → Q (.ref tp) { s with heap := h', toks := tk' }) :
  wpAny (model PySem.Challenge.rw_pb0473_01.row.prog w) A (call (.ref 319) [.ref P, .int n tn]) Q E s := by
  obtain ⟨dp, un, gd, cn, cs, a, ccd, cl, outer, A₀, base, rfl, B, X, T, hk, hd', hu⟩ := S.x
  obtain ⟨pre, post, rfl, hfn, hp1, hp2⟩ := U.split
  have NA : News h₀ L s.heap [(P, listOf #[.ref Cc, .int spot t1, .int carry t2] k)] := fun q hq => N q (List.mem_append_right _ (by rw [List.mem_singleton.mp hq]; exact .head _))
  have NR : News h₀ L s.heap (pre ++ post) := fun q hq => N q ((List.mem_append.mp hq).elim (fun e => List.mem_append_left _ e) fun e => List.mem_append_right _ (.tail _ e))
  have hdis : ∀ q ∈ pre ++ post, q.1 ∉ [(P, listOf #[.ref Cc, .int spot t1, .int carry t2] k)].map (·.1) := fun q hq e => ((List.mem_append.mp hq).elim (hp1 q) (hp2 q)) (List.mem_singleton.mp e)
  have hcl : Live h₀ (pre ++ post) Cc (listOf ys.toArray k2) := hc.imp id fun hc => (List.mem_append.mp hc).elim (fun e => List.mem_append_left _ e) fun e => (List.mem_cons.mp e).elim (fun e => absurd (congrArg Prod.fst e) hne) fun e => List.mem_append_right _ e
  revert X; k_fill; intro X
  refine wpAny_call ?_
  k_dflt (refine' code_fs (rest := pre ++ post) ?k1 ?k2 ?k3 ?k4 ?kR ?kd ?k5 ?kA ?kF ?kK ?k6 ?k7 ?k8 ?k9 ?kB ?_ ?c2 ?c3 ?c4 ?c5; (case kA => exact rfl); (case kF => exact rfl); (case kK => assumption); (case k1 => exact B); (case k2 => exact F); (case k3 => exact X); (case k4 => exact NA); (case kR => exact NR); (case kd => exact hdis); (case k5 => exact T); (case k6 => k_is); (case k7 => k_is); (case k8 => exact Nat.lt_of_le_of_lt (Nat.le_add_right _ _) hd'); (case k9 => exact BindsTo.of_eq rfl); (case c5 => decide); (case kB => exact locs rfl); (case c2 => exact rfl); (case c3 => exact rfl); (case c4 => exact rfl); k_whole)
  intro g' L' h' F' N' B' X' T' hR hS l1
  have HF : HeadF g' P Cc n spot carry 10 ys yn k2 := ⟨hn, hcl.at hS hR, hI, hL, hs, hne⟩
  refine execs_cut2 rfl (execs_app ?_)
  k_dflt (refine' hseg1 ?ho X' T' B' (by omega) (by omega) F' N' HF (by omega) ?_; (case ho => k_is))
  intro hx oh kvs x tx ex1 spot1 carry1 t11 t21 h1 tk1 hs1 F1 N1 n1 n2 n3 hd1 hl1 hv1 hK1 hx1 hlo1
  have HF1 : HeadF g' P Cc n spot1 carry1 12 ys yn k2 := ⟨hn, hcl.at hS hR, hI, hL, ⟨hs1.1, by omega, hs1.2.2⟩, hne⟩
  dsimp only
  k_dflt (refine' hseg2 ?hp X' T' B' (by omega) (by omega) F1 N1 HF1 (by omega) n1 n2 n3 hd1 hl1 hv1 ?_; (case hp => k_is))
  intro tp oh2 kvs2 R held ex2 spot2 carry2 t12 t22 th h2 tk2 m2 hs2 F2 N2 NE2 e1 e2 e3 e4 hd2 hl2 hv2 hV2 hR2 hb2
  dsimp only
  refine ⟨L', m2, _, F2, newsApp N2 NE2, fun FL NL NO => ?_⟩
  have g1 : ∀ q ∈ (tp, (⟨.type "tuple", none, .seq #[.ref hx, .str x tx, .int held th] 0, #[]⟩ : Obj)) :: (hx, oh2) :: (ex2 ++ ex1), g'.get? q.1 = none := fun q hq => by
    rcases List.mem_cons.mp hq with rfl | hq
    · exact (N2 _ (.head _)).2.2
    rcases List.mem_cons.mp hq with rfl | hq
    · exact (N2 _ (.tail _ (.head _))).2.2
    rcases List.mem_append.mp hq with hq | hq
    · exact (N2 _ (.tail _ (.tail _ (.tail _ hq)))).2.2
    · exact (NE2 _ hq).2.2
  have g2 : ∀ q ∈ (tp, (⟨.type "tuple", none, .seq #[.ref hx, .str x tx, .int held th] 0, #[]⟩ : Obj)) :: (hx, oh2) :: (ex2 ++ ex1), P ≠ q.1 := fun q hq => by
    rcases List.mem_cons.mp hq with rfl | hq
    · exact fun e => e3 e.symm
    rcases List.mem_cons.mp hq with rfl | hq
    · exact fun e => n1 e.symm
    rcases List.mem_append.mp hq with hq | hq
    · exact fun e => e1 _ hq e.symm
    · exact fun e => n2 _ hq e.symm
  have g3 : ∀ q ∈ pre ++ (P, listOf #[.ref Cc, .int spot t1, .int carry t2] k) :: post, ∀ r ∈ (tp, (⟨.type "tuple", none, .seq #[.ref hx, .str x tx, .int held th] 0, #[]⟩ : Obj)) :: (hx, oh2) :: (ex2 ++ ex1), q.1 ≠ r.1 := fun q hq r hr e => by
    have hn1 := g1 r hr
    have old : q ∈ pre ++ post → False := fun hm => by have := hR q hm; rw [e, hn1] at this; cases this
    rcases List.mem_append.mp hq with hq | hq
    · exact old (List.mem_append_left _ hq)
    rcases List.mem_cons.mp hq with rfl | hq
    · exact g2 r hr e
    · exact old (List.mem_append_right _ hq)
  refine hret tp hx oh2 kvs2 x tx th R held (ex2 ++ ex1) spot2 carry2 t12 t22 h2 tk2 ⟨hs2.1, by omega, hs2.2.2⟩ FL ?_ ?_ (fun q hq => ⟨g3 q hq _ (.head _), g3 q hq _ (.tail _ (.head _)), fun r hr => g3 q hq r (.tail _ (.tail _ hr))⟩) hd2 (fun Hb => (hV2 Hb).sub fun q hq => List.mem_append_left _ hq) hR2 hb2 (fun Hb => by rw [hv2]; exact (hK1 Hb).sub fun q hq => List.mem_append_right _ hq) hx1 hlo1
  · rw [hfn]
    intro q hq
    rcases List.mem_append.mp hq with hq | hq
    · exact NO q (List.mem_append_left _ hq)
    rcases List.mem_cons.mp hq with rfl | hq
    · exact NL _ (List.mem_append_left _ (.tail _ (.tail _ (.head _))))
    · exact NO q (List.mem_append_right _ hq)
  · intro q hq
    rcases List.mem_cons.mp hq with rfl | hq
    · exact NL _ (List.mem_append_left _ (.head _))
    rcases List.mem_cons.mp hq with rfl | hq
    · exact NL _ (List.mem_append_left _ (.tail _ (.head _)))
    rcases List.mem_append.mp hq with hq | hq
    · exact NL _ (List.mem_append_left _ (.tail _ (.tail _ (.tail _ hq))))
    · exact NL _ (List.mem_append_right _ hq)

end HeadC
section PlainS
open PySem PySem.W PyProof.Rows PySem.Spec PySem.Calls
theorem fl_uniq : ∀ q ∈ FL, ∀ r ∈ FL, r.x = q.x → r.b = q.b := by decide +kernel
theorem hasW_bit (n : Int) (q : FP) (hq : q ∈ FL) : hasW n q.x = (Builtin.bitAnd n q.b != 0) := by
  show (wds n).any (fun y => y == q.x) = _
  rw [Bool.eq_iff_iff]
  constructor
  · intro h
    obtain ⟨y, hy, e⟩ := List.any_eq_true.mp h
    obtain ⟨r, hr, e2⟩ := List.mem_filterMap.mp hy
    rw [fwd_if] at e2
    split at e2
    · rename_i hb
      cases e2
      rw [← fl_uniq q hq r hr (eq_of_beq e)]
      exact hb
    · cases e2
  · intro h
    refine List.any_eq_true.mpr ⟨q.x, List.mem_filterMap.mpr ⟨q, hq, by rw [fwd_if, if_pos h]⟩, by simp⟩
theorem bit_i (n : Int) (h : 0 ≤ n ∧ n < 1024) (i : Nat) (hi : i < 10) : (Builtin.bitAnd n (2 ^ i) != 0) = decide ((n.fdiv (2 ^ i)).fmod 2 = 1) := by
  obtain ⟨k, rfl⟩ := Int.eq_ofNat_of_zero_le h.1
  exact (num3 ⟨k, by omega⟩ ⟨i, hi⟩).symm
theorem fm2 (x : Int) : x.fmod 2 = 0 ∨ x.fmod 2 = 1 := by
  have := Int.fmod_nonneg_of_pos x (b := 2) (by decide)
  have := Int.fmod_lt_of_pos x (b := 2) (by decide)
  omega
theorem hasW_i (n : Int) (h : 0 ≤ n ∧ n < 1024) (i : Nat) (hi : i < 10) (q : FP) (hq : q ∈ FL) (hb : q.b = 2 ^ i) : hasW n q.x = !decide ((n.fdiv (2 ^ i)).fmod 2 = 0) := by
  rw [hasW_bit n q hq, hb, bit_i n h i hi]
  rcases fm2 (n.fdiv (2 ^ i)) with e | e <;> simp [e]
theorem hasInv (n : Int) (h : 0 ≤ n ∧ n < 1024) : hasW n (Str.ofString "Invisible") = !decide (n.fmod 2 = 0) := by
  have := hasW_i n h 0 (by decide) ⟨135, "Invisible", 361, 1, 362⟩ (.head _) rfl
  rw [Int.pow_zero, Int.fdiv_one] at this
  exact this
theorem hasHid (n : Int) (h : 0 ≤ n ∧ n < 1024) : hasW n (Str.ofString "Hidden") = !decide ((n.fdiv 2).fmod 2 = 0) :=
  hasW_i n h 1 (by decide) ⟨136, "Hidden", 363, 2, 364⟩ (.tail _ (.head _)) rfl
theorem hasPri (n : Int) (h : 0 ≤ n ∧ n < 1024) : hasW n (Str.ofString "Print") = !decide ((n.fdiv 4).fmod 2 = 0) :=
  hasW_i n h 2 (by decide) ⟨137, "Print", 365, 4, 366⟩ (.tail _ (.tail _ (.head _))) rfl
theorem hasNov (n : Int) (h : 0 ≤ n ∧ n < 1024) : hasW n (Str.ofString "NoView") = !decide ((n.fdiv 32).fmod 2 = 0) :=
  hasW_i n h 5 (by decide) ⟨140, "NoView", 371, 32, 372⟩ (.tail _ (.tail _ (.tail _ (.tail _ (.tail _ (.head _)))))) rfl
/-- the law's own rule: neither hidden, nor invisible without a known kind -/
def seenB (n : Int) (x : Str) : Bool := decide ((n.fdiv 2).fmod 2 = 0) && (decide (n.fmod 2 = 0) || kindsL.any fun y => y == x)
theorem shown_scr (n : Int) (h : 0 ≤ n ∧ n < 1024) (x : Str) : shownB n x (Str.ofString "screen") = (seenB n x && decide ((n.fdiv 32).fmod 2 = 0)) := by
  have e : (Str.ofString "screen" == Str.ofString "print") = false := by decide +kernel
  unfold shownB seenB shownW
  rw [hasInv n h, hasHid n h, hasNov n h, e]
  generalize (kindsL.any fun y => y == x) = k
  cases decide ((n.fdiv 2).fmod 2 = 0) <;> cases decide (n.fmod 2 = 0) <;> cases k <;> simp
theorem shown_pri (n : Int) (h : 0 ≤ n ∧ n < 1024) (x : Str) : shownB n x (Str.ofString "print") = (seenB n x && decide ((n.fdiv 4).fmod 2 = 1)) := by
  have e : (Str.ofString "print" == Str.ofString "print") = true := by decide +kernel
  have e4 : decide ((n.fdiv 4).fmod 2 = 1) = !decide ((n.fdiv 4).fmod 2 = 0) := by rcases fm2 (n.fdiv 4) with q | q <;> simp [q]
  unfold shownB seenB shownW
  rw [hasInv n h, hasHid n h, hasPri n h, e, e4]
  generalize (kindsL.any fun y => y == x) = k
  cases decide ((n.fdiv 2).fmod 2 = 0) <;> cases decide (n.fmod 2 = 0) <;> cases k <;> simp
theorem ne_bool_eq {prog : Program} {w : World} {A : Around} {E : Value → Shared → Prop} {s : Shared} {a b : Bool} {Q : Value → Shared → Prop} (e : a = b) (h : Q (.bool false) s) : wpAny (model prog w) A (compareOp .NotEq (.bool a) (.bool b)) Q E s := PyProof.Rows.ne_bool (by rw [e]; simpa using h)
theorem ne_str_self {prog : Program} {w : World} {A : Around} {E : Value → Shared → Prop} {s : Shared} {a : Str} {t u : Tok} {Q : Value → Shared → Prop} (h : Q (.bool false) s) : wpAny (model prog w) A (compareOp .NotEq (.str a t) (.str a u)) Q E s := PyProof.Rows.ne_str (by simpa using h)
theorem seen1 {n : Int} {x : Str} (h1 : (n.fdiv 2).fmod 2 = 0) (h2 : n.fmod 2 = 0) : (n.fmod 2 == 0) = seenB n x := by unfold seenB; simp [h1, h2]
theorem seen2 {n : Int} {x : Str} {l : List (Str × Tok)} {ys : List Str} (h1 : (n.fdiv 2).fmod 2 = 0) (h2 : n.fmod 2 ≠ 0) (e : l.map (fun x => x.1) = ys) (hk : ys = kindsL) : ((l.map fun x => x.1).any fun y => y == x) = seenB n x := by rw [e, hk]; unfold seenB; rw [decide_eq_true h1, decide_eq_false h2]; rfl
theorem seen3 {n : Int} {x : Str} (h1 : (n.fdiv 2).fmod 2 ≠ 0) : ((n.fdiv 2).fmod 2 == 0) = seenB n x := by unfold seenB; simp [h1]
theorem fr_seen {H h : Heap} {L : Addr} {m : Str → Option Value} {b b' : Bool} (e : b = b') (F : Fr H L h (fun y => if y = Str.ofString "seen" then some (.bool b) else m y)) : Fr H L h (fun y => if y = Str.ofString "seen" then some (.bool b') else m y) := e ▸ F
theorem news_core {H h : Heap} {L : Addr} {l l' ex : List (Addr × Obj)} (N : News H L h l') (m1 : ∀ q ∈ l, q ∈ l') : News H L h l := fun q hq => N q (m1 q hq)
theorem scrT {n : Int} {x : Str} (hb : 0 ≤ n ∧ n < 1024) (a : seenB n x = true) : shownB n x (Str.ofString "screen") = ((n.fdiv 32).fmod 2 == 0) := by rw [shown_scr n hb x, a, Bool.true_and]; rfl
theorem scrF {n : Int} {x : Str} (hb : 0 ≤ n ∧ n < 1024) (a : seenB n x = false) : shownB n x (Str.ofString "screen") = seenB n x := by rw [shown_scr n hb x, a, Bool.false_and]
theorem scrF' {n : Int} {x : Str} (hb : 0 ≤ n ∧ n < 1024) (a : seenB n x = false) : shownB n x (Str.ofString "screen") = false := by rw [shown_scr n hb x, a, Bool.false_and]
theorem priT {n : Int} {x : Str} (hb : 0 ≤ n ∧ n < 1024) (a : seenB n x = true) : shownB n x (Str.ofString "print") = ((n.fdiv 4).fmod 2 == 1) := by rw [shown_pri n hb x, a, Bool.true_and]; rfl
theorem priF {n : Int} {x : Str} (hb : 0 ≤ n ∧ n < 1024) (a : seenB n x = false) : shownB n x (Str.ofString "print") = seenB n x := by rw [shown_pri n hb x, a, Bool.false_and]
theorem priF' {n : Int} {x : Str} (hb : 0 ≤ n ∧ n < 1024) (a : seenB n x = false) : shownB n x (Str.ofString "print") = false := by rw [shown_pri n hb x, a, Bool.false_and]
abbrev badWays : List Str := [Str.ofString "", Str.ofString "Print", Str.ofString "paper"]
theorem bad_way : ∀ x ∈ badWays, (waysL.any fun y => y == x) = false := by decide +kernel

end PlainS
section LawS1
open PySem PySem.W PyProof.Rows PySem.Spec PySem.Calls PyProof.Rows.LCg
def lf_63 : Lean.MacroM Tc := `(tactic| (have ne2' := allNe_two ne'))
def lf_64 : Lean.MacroM Tc := `(tactic| (clear ne'))
def lf_65 : Lean.MacroM Tc := `(tactic| (simp only [TLg.AllNe, and_true] at ne2'))
local macro_rules | `(tactic| walk_at "call ref") => sq [shw 290 "_", kd [rf ``pen_c "ksc kI kl kS kF kN kh _", css "ksc:a kI:a kl:a kS:at kF:k kN:k kh:r"], ins "P' C' ys' yn' k1' k2' t1' t2' h' tk' nc' hI' hl' F' N' ne'", lf_63, lf_64, lf_65, ys "ds"]
local macro_rules | `(tactic| walk_at "call ref") => sq [shw 297 "ri", kd [rf ``draw_c ". . km kS kF kN kU kc kne kI kL ks _", css "km:d kS:at kF:k kN:k kU:u kc:ir kne:a kI:a kL:a ks:ao", ys "w"], ins "d' t' spot' t1' carry' t2' h' tk' hd' hs' F' N'", ys "dN sw ds"]
def lf_66 : Lean.MacroM Tc := `(tactic| (have ne2' := allNe_of ne'))
local macro_rules | `(tactic| walk_at "call ref") => sq [shw 152 "_", kd [rf ``fw_c ". . kS kF kN kh _", css "kS:at kF:k kN:k kh:r"], ins "D' ys' h' tk' hy' ne' F' N'", lf_66, lf_64, lf_65, ys "ds"]
def lf_67 : Lean.MacroM Tc := `(tactic| (refine LCt.CompSrcT.range (by rfl) (by k_asm) (by k_asm) (by assumption) (by decide) (by rfl) (by exact Nat.le_of_ble_eq_true rfl) ?_))
def lf_68 : Lean.MacroM Tc := `(tactic| (refine' st_law (by assumption) (fun k' t' I' oI' C' oC' D' m' ys' h' tk' E' hlo' hhi' hC' hx' F' N' off' ne' => ?_) ?_))
def lf_69 : Lean.MacroM Tc := `(tactic| (intro ys' hys'))
def lf_70 : Lean.MacroM Tc := `(tactic| (all_goals (try dsimp only)))
local macro_rules | `(tactic| walk_at "CompSrcT") => sq [ys "h", kd [lf_67, ins "g'", sq [lf_68], ys "rl", lf_69, ys "rl"], lf_70]
def lf_71 : Lean.MacroM Tc := `(tactic| (first | exact CompEnd.intro (by k_asm) (by k_asm) _ (fun _ hp => hp) (by assumption) trivial ⟨rfl, _, _, rfl, if_pos (by first | assumption | exact beq_iff_eq.mpr (by assumption))⟩ | exact CompEnd.intro (by k_asm) (by k_asm) _ (fun _ hp => hp) (by assumption) trivial ⟨rfl, if_neg (ne_true_of_eq_false (by first | assumption | exact beq_eq_false_iff_ne.mpr (by assumption)))⟩))
local macro_rules | `(tactic| walk_at "CompEnd") => sq [ys "ds", lf_71]
def lf_72 : Lean.MacroM Tc := `(tactic| (with_reducible show wpAny _ _ (compareOp CmpOp.NotEq (Value.ref _) (Value.ref _)) _ _ _))
def lf_73 : Lean.MacroM Tc := `(tactic| (refine' ne_sameK ?k1 ?k2 ?k3 ?k4 (wds_ok _) ?k5 ?_))
local macro_rules | `(tactic| walk_at "compareOp NotEq ref ref") => sq [ys "h", lf_72, wu [lf_73, css "k1:il k2:a k3:il k4:a k5:ur2", ys "w"]]
def lf_74 : Lean.MacroM Tc := `(tactic| (with_reducible show wpAny _ _ (subscriptTail _ (PySem.Expr.Slice none none (some _) _) (Value.ref _) (Value.ref _)) _ _ _))
def lf_75 : Lean.MacroM Tc := `(tactic| (exact IsPart.int _ _))
def lf_76 : Lean.MacroM Tc := `(tactic| (exact Nat.le_trans (wds_len _) (by decide)))
local macro_rules | `(tactic| walk_at "subscriptTail Name Slice ref ref") => sq [ys "h", lf_74, kd [rf ``rev_strs "F N l k i _ s t z", css "F:k N:k l:il", cs "k" lf_75, css "i:a s:ur t:pu", cs "z" lf_76], ins "D' us' h' F' N' l1 hI'", ys "l1"]
def lf_77 : Lean.MacroM Tc := `(tactic| (first | exact wds_30 _ | exact rev_30 _))
def lf_78 : Lean.MacroM Tc := `(tactic| (intro e' g2' h' tk' hn' F' N' R' U'; exfalso; first | (rw [fnum_wds _ (by assumption)] at hn'; cases hn') | (rw [fnum_rev _ (by assumption)] at hn'; cases hn')))
def lf_79 : Lean.MacroM Tc := `(tactic| (first | rw [fnum_wds _ (by assumption)] at hf' | rw [fnum_rev _ (by assumption)] at hf'))
def lf_80 : Lean.MacroM Tc := `(tactic| (cases hf'))
local macro_rules | `(tactic| walk_at "call ref") => sq [shw 159 "_", kd [rf ``fn_c "kW kz kS kF kN kh kl _ kE", css "kF:k kN:k kl:um kW:a", cs "kz" lf_77, cs "kS" yX, css "kh:r", cs "kE" lf_78], ins "f' t' h' tk' hf' F' N'", lf_79, lf_80, ys "ds"]
local macro_rules | `(tactic| walk_at "compareOp NotEq") => `(tactic| ((with_reducible refine ne_int_self ?_)))
local macro_rules | `(tactic| walk_at "compareOp NotEq int int") => `(tactic| ((with_reducible refine ne_int_self ?_)))
local macro_rules | `(tactic| walk_at "call ref") => sq [shw 304 "rr", kd [rf ``pick_c "kW km kS kF kN kU kc kne kso kne2 kI kL ks _", css "kF:k kN:k kU:u kso:ir kW:rc km:dd kS:at kc:ir kne:a kne2:nn kI:a kL:a ks:ao", ys "w"], ins "x' t' spot' t1' carry' t2' h' tk' hx' hs' F' N'", ys "dN sw ds"]
def lf_81 : Lean.MacroM Tc := `(tactic| (refine wpAny_call ?_))
def lf_82 : Lean.MacroM Tc := `(tactic| (refine' code_try (rest := []) ?k1 ?k2 ?k3 ?k4 ?kR ?kd ?k5 ?kA ?kF ?kK ?k6 ?k7 ?k8 ?k9 ?kB ?_ ?c2 ?c3 ?c4 ?c5))
def lf_83 : Lean.MacroM Tc := `(tactic| (exact fun _ h => nomatch h))
def lf_84 : Lean.MacroM Tc := `(tactic| (exact BindsTo.of_eq rfl))
def lf_85 : Lean.MacroM Tc := `(tactic| (exact locs rfl))
def lf_86 : Lean.MacroM Tc := `(tactic| (clear hR))
local macro_rules | `(tactic| walk_at "call ref") => sq [shw 312 "r", kd [lf_81, sq [lf_82, css "kA:er kF:er kK:er k1:k k2:k k3:k k4:k kR:nl", cs "kd" lf_83, css "k5:k k6:ki k7:ki k8:ro", cs "k9" lf_84, css "c5:d", cs "kB" lf_85, css "c2:er c3:er c4:er", ys "w"]], ins "g' L' h' F' N' B' X' T' hR hS", lf_86, ys "ds"]
def lf_87 : Lean.MacroM Tc := `(tactic| (rename RaisedSN _ _ _ _ _ _ _ => rsX))
def lf_88 : Lean.MacroM Tc := `(tactic| (exact rsX))
def lf_89 : Lean.MacroM Tc := `(tactic| (clear rsX))
local macro_rules | `(tactic| walk_at "leaving ref") => sq [ys "h", lf_87, sq [rf ``leave_next "kB kf kF kN kR kU _", cs "kR" lf_88, css "kU:a kf:er kF:a kN:a kB:a"], lf_89, ins "h' R' U'", ys "ds"]
def lf_90 : Lean.MacroM Tc := `(tactic| (refine' caught rsX ?kF ?kB ?kU ?kX ?kT ?ke ?kc ?_ ?h1 ?h2 ?h3 ?h4))
local macro_rules | `(tactic| walk_at "noteFrame ref") => sq [ys "h", lf_87, kd [lf_90, css "kF:a kB:a kU:a kX:a kT:a ke:ki kc:kr h1:r h2:r h3:d h4:po"], lf_89, ins "h' g' Tt' F' N' X'", ys "ds"]
local macro_rules | `(tactic| walk_at "binaryOp Add ref ref") => sq [ys "h", lf_57, kd [rf ``add_bad "F N a b i _", css "F:k N:k a:il b:il i:a"], ins "D' us' h' F' N' l1 hI'", ys "l1 ds"]
def lf_91 : Lean.MacroM Tc := `(tactic| (exact bad_30 _ (by assumption)))
def lf_92 : Lean.MacroM Tc := `(tactic| (intro f' t' h' tk' hf' F' N'; exfalso; rw [fnum_bad _ (by assumption)] at hf'; cases hf'))
def lf_93 : Lean.MacroM Tc := `(tactic| (clear hn'))
local macro_rules | `(tactic| walk_at "call ref") => sq [shw 159 "_", kd [rf ``fn_c "kW kz kS kF kN kh kl kr _", css "kF:k kN:k kl:um kW:a", cs "kz" lf_91, cs "kS" yX, css "kh:r", cs "kr" lf_92], ins "e' g2' h' tk' hn' F' N' R' U'", lf_93, ys "ds"]
local macro_rules | `(tactic| walk_at "callWith ref") => `(tactic| (k_here; k_dflt (refine' callWith_K ?k1 ?k2 ?_; (case k1 => k_asm); (case k2 => k_is); k_whole)))
set_option maxRecDepth 100000 in
set_option maxHeartbeats 8000000 in
theorem seg1 {w : World} {p : Program} {loose : List Str} {mean : ExcName → Option Value} {mg mb : Str → Option Value} {H : Heap} {L a : Addr} {s : Shared} {Q : Flow → Shared → Prop} {E : Value → Shared → Prop}
  {name qual : Str} {params : Arguments} {body : List Stmt} {scope : Scope} {dV kV doc pm cdv ct oc : Value} {an od : Option Addr} {osl : Array (Option Value)} {m : Str → Option Value}
  (ho : (pre.heap_1_39 w.params).lookup 324 = some ⟨oc, od, .func (fnOf name qual params body scope dV kV doc pm an cdv ct), osl⟩)
  (X : (pre.heap_1_39 w.params).In H) (T : Top p loose mean mg mb H) (B : Below callerA H [] H) (C : CodeHd H 323 321)
  {sc : Addr} {c1 c2 c3 c4 c5 : Obj} {vs : List Value} {ns : List Int} (F : Fr H L s.heap (fun y => if y = Str.ofString "script" then some (.ref sc) else none))
  (N : News H L s.heap [(L + 1 + 1 + 1 + 1 + 1, c5), (L + 1 + 1 + 1 + 1, c4), (L + 1 + 1 + 1, c3), (L + 1 + 1, c2), (L + 1, c1), (321, tabObj #[])])
  (d1 : c1.data = .cell none) (d2 : c2.data = .cell none) (d3 : c3.data = .cell none) (d4 : c4.data = .cell none) (d5 : c5.data = .cell none)
  (l0 : @LT.lt Nat _ 321 L) (hL : H.IsList sc vs.toArray) (hI : IntsAre vs ns) (hlen : ns.length ≤ 63)
  (hnext : ∀ P Cc ys k1 k2 spot carry t1 t2 o1 o3 c5' yn n tn W us kW h' tk', Fr H L h' (fun y => if y = Str.ofString "script" then some (.ref sc) else none) → News H L h' (core L P Cc ys k1 k2 spot carry t1 t2 o1 c2 o3 c4 c5' #[]) → CoreF L P Cc o1 o3 n spot carry (0 + 1) tn ys yn →
    c5'.data = .cell (some (.ref W)) → News H L h' [(W, listOf (List.toArray us) kW)] → StrsAre us (wds n) → (@Ne Nat P W ∧ @Ne Nat Cc W ∧ @Ne Nat (L + 1 + 1 + 1 + 1 + 1) W ∧ @Ne Nat (L + 1 + 1 + 1 + 1) W ∧ @Ne Nat (L + 1 + 1 + 1) W ∧ @Ne Nat (L + 1 + 1) W ∧ @Ne Nat (L + 1) W ∧ @Ne Nat 321 W) → Q .next { s with heap := h', toks := tk' }) :
  wpAny (model PySem.Challenge.rw_pb0473_01.row.prog w) (callerA.deeper (envOfC qual scope L a (.ref 323))) (execs ((body.drop 0).take 4) (envOfC qual scope L a (.ref 323))) Q E s := by
  revert X; k_fill; intro X
  k_dflt (refine' look_two ?e ho ?_; (case e => k_is))
  intro h2
  cases h2
  clear ho
  
  refine cleanW ?_; (try dsimp only [List.drop, List.take]); (try k_fold)
  k_steps
  all_goals (k_dflt (refine' hnext _ _ _ _ _ _ _ _ _ _ _ _ _ _ _ _ _ _ _ _ ?F ?N ?CF ?d5 ?NW ?hW ?neW; (case F => assumption); (case N => (refine' News.of_mem ?mm ((by assumption : News H L _ (_ :: _))); exact ⟨by k_mem, by k_mem, by k_mem, by k_mem, by k_mem, by k_mem, by k_mem, by k_mem, trivial⟩)); (case d5 => assumption); (case NW => (refine' News.of_mem ?mw (by assumption); exact ⟨by k_mem, trivial⟩)); (case CF => exact ⟨by assumption, by assumption, by assumption, by assumption, by assumption, by assumption, by assumption, by assumption, by assumption⟩); (case hW => assumption); (case neW => assumption)))

open PySem PySem.W PyProof.Rows PySem.Spec PySem.Calls PyProof.Rows.LCg
set_option maxRecDepth 100000 in
set_option maxHeartbeats 8000000 in
theorem seg2 {w : World} {p : Program} {loose : List Str} {mean : ExcName → Option Value} {mg mb : Str → Option Value} {H : Heap} {L a : Addr} {s : Shared} {Q : Flow → Shared → Prop} {E : Value → Shared → Prop}
  {name qual : Str} {params : Arguments} {body : List Stmt} {scope : Scope} {dV kV doc pm cdv ct oc : Value} {an od : Option Addr} {osl : Array (Option Value)} {m : Str → Option Value}
  (ho : (pre.heap_1_39 w.params).lookup 324 = some ⟨oc, od, .func (fnOf name qual params body scope dV kV doc pm an cdv ct), osl⟩)
  (X : (pre.heap_1_39 w.params).In H) (T : Top p loose mean mg mb H) (B : Below callerA H [] H) (C : CodeHd H 323 321)
  {P Cc : Addr} {ys : List Value} {yn : List Int} {k1 k2 : Nat} {n spot carry smax : Int} {tn t1 t2 : Tok} {o1 c2 o3 c4 c5 : Obj} {sc W : Addr} {us : List Value} {kW : Nat} (F : Fr H L s.heap (fun y => if y = Str.ofString "script" then some (.ref sc) else none)) (N0 : News H L s.heap (core L P Cc ys k1 k2 spot carry t1 t2 o1 c2 o3 c4 c5 #[])) (CF : CoreF L P Cc o1 o3 n spot carry smax tn ys yn) (hsm : smax ≤ 50)
  (d5 : c5.data = .cell (some (.ref W))) (NW : News H L s.heap [(W, listOf (List.toArray us) kW)]) (hW : StrsAre us (wds n))
  (neW : @Ne Nat P W ∧ @Ne Nat Cc W ∧ @Ne Nat (L + 1 + 1 + 1 + 1 + 1) W ∧ @Ne Nat (L + 1 + 1 + 1 + 1) W ∧ @Ne Nat (L + 1 + 1 + 1) W ∧ @Ne Nat (L + 1 + 1) W ∧ @Ne Nat (L + 1) W ∧ @Ne Nat 321 W)
  (hnext : ∀ spot' carry' t1' t2' c' h' tk', (0 ≤ spot' ∧ spot' ≤ spot + 1 ∧ 0 ≤ carry') → Fr H L h' (fun y => if y = Str.ofString "script" then some (.ref sc) else none) → News H L h' (core L P Cc ys k1 k2 spot' carry' t1' t2' o1 c2 o3 c4 c5 (#[] ++ #[rawInt 168, rawInt 24, .ref c'])) → Q .next { s with heap := h', toks := tk' }) :
  wpAny (model PySem.Challenge.rw_pb0473_01.row.prog w) (callerA.deeper (envOfC qual scope L a (.ref 323))) (execs ((body.drop 4).take 1) (envOfC qual scope L a (.ref 323))) Q E s := by
  revert X; k_fill; intro X
  k_dflt (refine' look_two ?e ho ?_; (case e => k_is))
  intro h2
  cases h2
  clear ho
  obtain ⟨l0, hn, d1, d3, hI, hl, hs, nc, ne2⟩ := CF; have N := News.cons NW N0; clear N0 NW
  refine cleanW ?_; (try dsimp only [List.drop, List.take]); (try k_fold)
  k_steps
  all_goals (k_dflt (refine' hnext _ _ _ _ _ _ _ ?hs ?F ?N; (case F => assumption); (case N => (refine' News.of_mem ?mm ((by assumption : News H L _ (_ :: _))); exact ⟨by k_mem, by k_mem, by k_mem, by k_mem, by k_mem, by k_mem, by k_mem, by k_mem, trivial⟩)); (case hs => assumption)))

end LawS1
section LawS3
open PySem PySem.W PyProof.Rows PySem.Spec PySem.Calls PyProof.Rows.LCg
local macro_rules | `(tactic| walk_at "call ref") => sq [shw 66 "_", kd [rf ``name_c "kS kF kN kh _", css "kS:at kF:k kN:k kh:r"], ins "x' d' ka0' ta0' n' h' tk' F' N' l1 l2", ys "l1 l2 ds"]
local macro_rules | `(tactic| walk_at "call ref") => sq [shw 94 "_", kd [rf ``refe_c "kS kF kN kh _", css "kS:at kF:k kN:k kh:r"], ins "x' d' ka0' ta0' ka1' ta1' n' h' tk' F' N' l1 l2", ys "l1 l2 ds"]
local macro_rules | `(tactic| walk_at "call ref") => sq [shw 274 "_", kd [rf ``deci_c "kS kF kN kh _", css "kS:at kF:k kN:k kh:r"], ins "x' d' ka0' ta0' ka1' ta1' n' h' tk' F' N' l1 l2", ys "l1 l2 ds"]
local macro_rules | `(tactic| walk_at "call ref") => sq [shw 130 "_", kd [rf ``look_c "kS kF kN kh _", css "kS:at kF:k kN:k kh:r"], ins "x' d' ka0' ta0' ka1' ta1' n' h' tk' F' N' l1 l2", ys "l1 l2 ds"]
def lf_94 : Lean.MacroM Tc := `(tactic| (omega))
def lf_95 : Lean.MacroM Tc := `(tactic| (have N' := hd_join N1' N2'))
def lf_96 : Lean.MacroM Tc := `(tactic| (clear N1' N2'))
def lf_97 : Lean.MacroM Tc := `(tactic| (simp only [List.cons_append, List.nil_append] at N'))
def lf_98 : Lean.MacroM Tc := `(tactic| (have zP' := ne' _ (List.Mem.tail _ (List.Mem.tail _ (List.Mem.tail _ (List.Mem.tail _ (List.Mem.tail _ (List.Mem.head _))))))))
def lf_99 : Lean.MacroM Tc := `(tactic| (have zH' := ne' _ (List.Mem.tail _ (List.Mem.tail _ (List.Mem.tail _ (List.Mem.tail _ (List.Mem.tail _ (List.Mem.tail _ (List.Mem.tail _ (List.Mem.tail _ (List.Mem.tail _ (List.Mem.tail _ (List.Mem.head _)))))))))))))
def lf_100 : Lean.MacroM Tc := `(tactic| (have zT' := ne' _ (List.Mem.tail _ (List.Mem.tail _ (List.Mem.tail _ (List.Mem.tail _ (List.Mem.tail _ (List.Mem.tail _ (List.Mem.tail _ (List.Mem.tail _ (List.Mem.tail _ (List.Mem.tail _ (List.Mem.tail _ (List.Mem.tail _ (List.Mem.head _)))))))))))))))
def lf_101 : Lean.MacroM Tc := `(tactic| (have yP' := fun q hq => Ne.symm (zP'.2.2 q hq)))
def lf_102 : Lean.MacroM Tc := `(tactic| (have yH' := fun q hq => Ne.symm (zH'.2.2 q hq)))
def lf_103 : Lean.MacroM Tc := `(tactic| (have yT' := fun q hq => Ne.symm (zT'.2.2 q hq)))
def lf_104 : Lean.MacroM Tc := `(tactic| (have xP' : @Ne Nat _ _ ∧ @Ne Nat _ _ := And.intro zP'.1 zP'.2.1))
def lf_105 : Lean.MacroM Tc := `(tactic| (have xH' : @Ne Nat _ _ ∧ @Ne Nat _ _ := And.intro zH'.1 zH'.2.1))
def lf_106 : Lean.MacroM Tc := `(tactic| (have xT' : @Ne Nat _ _ ∧ @Ne Nat _ _ := And.intro zT'.1 zT'.2.1))
def lf_107 : Lean.MacroM Tc := `(tactic| (clear zP' zH' zT' ne'))
def lf_108 : Lean.MacroM Tc := `(tactic| (try dsimp only at xP' xH' xT' yP' yH' yT'))
local macro_rules | `(tactic| walk_at "call ref") => sq [shw 319 "_", kd [rf ``head_c "kS kF kN kU kc kne kn kI kL ks _", css "kF:k kN:k kU:u kn:a kS:at kc:ir kne:a kI:a kL:a", cs "ks" lf_94], ins "tp' hx' oh' kvs' x' tx' th' R' held' new' spot' carry' t1' t2' h' tk' hs' F' N1' N2' ne' hdk' hV' hR' hb' hK' hx' hlo'", lf_95, lf_96, lf_97, lf_98, lf_99, lf_100, lf_101, lf_102, lf_103, lf_104, lf_105, lf_106, lf_107, lf_108, ys "sw ds"]
local macro_rules | `(tactic| k_all) => `(tactic| assumption)
local macro_rules | `(tactic| walk_at "callWith ref") => `(tactic| (k_here; k_dflt (refine' callWith_K ?k1 ?k2 ?_; (case k1 => k_asm); (case k2 => k_is); k_whole)))
def lf_109 : Lean.MacroM Tc := `(tactic| (exact Top.nolimit (by k_asm)))
def lf_110 : Lean.MacroM Tc := `(tactic| (exact List.cons_ne_nil _ _))
def lf_111 : Lean.MacroM Tc := `(tactic| (exact Nat.le_of_ble_eq_true rfl))
local macro_rules | `(tactic| walk_at "eval Dict") => sq [ys "h", kd [rf ``kdn_int "q F N b a l e n _", css "q:r F:k N:k", cs "b" lf_109, css "a:r l:r", cs "e" lf_110, cs "n" lf_111], ins "d' h' o' F' N' l1 lo' hd'", ys "l1"]
set_option maxRecDepth 100000 in
set_option maxHeartbeats 8000000 in
theorem seg3 {w : World} {p : Program} {loose : List Str} {mean : ExcName → Option Value} {mg mb : Str → Option Value} {H : Heap} {L a : Addr} {s : Shared} {Q : Flow → Shared → Prop} {E : Value → Shared → Prop}
  {name qual : Str} {params : Arguments} {body : List Stmt} {scope : Scope} {dV kV doc pm cdv ct oc : Value} {an od : Option Addr} {osl : Array (Option Value)} {m : Str → Option Value}
  (ho : (pre.heap_1_39 w.params).lookup 324 = some ⟨oc, od, .func (fnOf name qual params body scope dV kV doc pm an cdv ct), osl⟩)
  (X : (pre.heap_1_39 w.params).In H) (T : Top p loose mean mg mb H) (B : Below callerA H [] H) (C : CodeHd H 323 321)
  {P Cc : Addr} {ys : List Value} {yn : List Int} {k1 k2 : Nat} {n spot carry smax : Int} {tn t1 t2 : Tok} {o1 c2 o3 c4 c5 : Obj} {sc c' : Addr} (F : Fr H L s.heap (fun y => if y = Str.ofString "script" then some (.ref sc) else none)) (N : News H L s.heap (core L P Cc ys k1 k2 spot carry t1 t2 o1 c2 o3 c4 c5 (#[] ++ #[rawInt 168, rawInt 24, .ref c']))) (CF : CoreF L P Cc o1 o3 n spot carry smax tn ys yn) (hsm : smax ≤ 6)
  (d2 : c2.data = .cell none) (d4 : c4.data = .cell none)
  (hnext : ∀ ex sh hx oh kvs x tx th R held spot' carry' t1' t2' c2' c4' h' tk', (0 ≤ spot' ∧ spot' ≤ spot + 3 ∧ 0 ≤ carry') → Fr H L h' (fun y => if y = Str.ofString "held" then some (.int held th) else if y = Str.ofString "word" then some (.str x tx) else if y = Str.ofString "script" then some (.ref sc) else none) → News H L h' (core L P Cc ys k1 k2 spot' carry' t1' t2' o1 c2' o3 c4' c5 (#[] ++ #[rawInt 168, rawInt 24, .ref c'])) → News H L h' ex → c2'.data = .cell (some (.ref hx)) → c4'.data = .cell (some (.ref sh)) → ShF w ex P sh hx n held x R oh kvs → Q .next { s with heap := h', toks := tk' }) :
  wpAny (model PySem.Challenge.rw_pb0473_01.row.prog w) (callerA.deeper (envOfC qual scope L a (.ref 323))) (execs ((body.drop 5).take 2) (envOfC qual scope L a (.ref 323))) Q E s := by
  revert X; k_fill; intro X
  k_dflt (refine' look_two ?e ho ?_; (case e => k_is))
  intro h2
  cases h2
  clear ho
  obtain ⟨l0, hn, d1, d3, hI, hl, hs, nc, ne2⟩ := CF; dsimp only [core] at N
  refine cleanW ?_; (try dsimp only [List.drop, List.take]); (try k_fold)
  k_steps
  all_goals (try dsimp only)
  k_dflt (refine' hnext (six n _ _ _ _ _ _ _ _ _ _ _ _ _ _ _ _ ++ _) _ _ _ _ _ _ _ _ _ _ _ _ _ _ _ _ _ ?hs ?F ?N ?NE ?d2 ?d4 ⟨?sS, ?sm, ?sd, ?sV, ?sK, ?sR, ?sx, ?sl, ?sP, ?sT, ?sB⟩; (case F => assumption);  (case N => (refine News.of_mem ?_ (by assumption : News H L _ (_ :: _)); exact ⟨by k_mem, by k_mem, by k_mem, by k_mem, by k_mem, by k_mem, by k_mem, by k_mem, trivial⟩)); (case d2 => assumption); (case d4 => assumption); (case hs => assumption); (case sV => exact fun Hb => ((by assumption : ∀ Hb, VIs Hb _ _ _ _) Hb).sub fun q hq => List.mem_append_right _ hq); (case sm => exact List.Mem.head _); (case NE => exact newsApp (by (refine News.of_mem ?_ (by assumption : News H L _ (_ :: _)); exact ⟨by k_mem, by k_mem, by k_mem, by k_mem, by k_mem, by k_mem, trivial⟩)) (by (intro q hq; exact (by assumption : News H L _ (_ :: _)) q (by (repeat' first | exact hq | refine List.Mem.tail _ ?_))))); (case sd => assumption); (case sR => assumption); (case sx => assumption); (case sB => assumption); (case sl => assumption);  (case sK => exact fun Hb => ((by assumption : ∀ Hb, KIs Hb _ _ _) Hb).sub fun q hq => List.mem_append_right _ hq); (case sS => exact six_shelf (by assumption) (by assumption)); (case sP => exact List.forall_mem_append.mpr ⟨by k_all, by assumption⟩); (case sT => exact List.forall_mem_append.mpr ⟨by k_all, by assumption⟩))

end LawS3
section LawS4
local macro_rules | `(tactic| walk_at "one more LawS4") => `(tactic| skip)
open PySem PySem.W PyProof.Rows PySem.Spec PySem.Calls PyProof.Rows.LCg
local macro_rules | `(tactic| walk_at "compareOp NotEq") => `(tactic| ((with_reducible refine ne_int_self ?_)))
local macro_rules | `(tactic| walk_at "compareOp NotEq int int") => `(tactic| ((with_reducible refine ne_int_self ?_)))
local macro_rules | `(tactic| walk_at "callWith ref") => `(tactic| (k_here; k_dflt (refine' callWith_K ?k1 ?k2 ?_; (case k1 => k_asm); (case k2 => k_is); k_whole)))
def lf_112 : Lean.MacroM Tc := `(tactic| (have z9 := (by assumption : ∀ Hb, ShelfIs _ Hb _ _ _); exact ShelfIs.sub (fun q hq => (by (repeat' first | exact hq | refine List.Mem.tail _ ?_))) (z9 _)))
def lf_113 : Lean.MacroM Tc := `(tactic| (refine Or.inr ?_; (repeat' first | assumption | refine List.Mem.tail _ ?_)))
def lf_114 : Lean.MacroM Tc := `(tactic| (have z9 := (by assumption : ∀ Hb, VIs Hb _ _ _ _); exact VIs.sub (fun q hq => (by (repeat' first | exact hq | refine List.Mem.tail _ ?_))) (z9 _)))
def lf_115 : Lean.MacroM Tc := `(tactic| (try rw [(by assumption : heldOf _ = _)]))
local macro_rules | `(tactic| walk_at "call ref") => sq [shw 166 "_", kd [rf ``flags_c "kH kl kd klo kval kV kS kF kN kh _", css "kF:k kN:k", cs "kH" lf_112, cs "kl" lf_113, css "kd:a klo:a kval:er", cs "kV" lf_114, css "kS:at kh:r"], ins "t' h' tk' F' N'", lf_115, ys "sw ds"]
def lf_116 : Lean.MacroM Tc := `(tactic| (have z9 := (by assumption : ∀ Hb, KIs Hb _ _ _); exact KIs.sub (fun q hq => (by (repeat' first | exact hq | refine List.Mem.tail _ ?_))) (z9 _)))
local macro_rules | `(tactic| walk_at "call ref") => sq [shw 173 "_", kd [rf ``kind_c "kH kl kd klo kval kV kS kF kN kh _", css "kF:k kN:k", cs "kH" lf_112, cs "kl" lf_113, css "kd:a klo:a kval:er", cs "kV" lf_116, css "kS:at kh:r"], ins "t' h' tk' F' N'", ys "sw ds"]
def lf_117 : Lean.MacroM Tc := `(tactic| (intro hw'; exact absurd hw' (by decide +kernel)))
def lf_118 : Lean.MacroM Tc := `(tactic| (clear hw'))
local macro_rules | `(tactic| walk_at "call ref") => sq [shw 180 "_", kd [rf ``shown_c "kH kl kd klo kval kV kva kK kS kF kN kh _ kE", css "kF:k kN:k", cs "kH" lf_112, cs "kl" lf_113, css "kd:a klo:a kval:er", cs "kV" lf_114, css "kva:er", cs "kK" lf_116, cs "kS" yX, css "kh:r", cs "kE" lf_117], ins "hw' h' tk' F' N'", lf_118, lf_115, ys "sw ds"]
local macro_rules | `(tactic| walk_at "compareOp NotEq str str") => `(tactic| ((with_reducible refine ne_str_self ?_)))
set_option maxRecDepth 100000 in
set_option maxHeartbeats 8000000 in
theorem seg4 {w : World} {p : Program} {loose : List Str} {mean : ExcName → Option Value} {mg mb : Str → Option Value} {H : Heap} {L a : Addr} {s : Shared} {Q : Flow → Shared → Prop} {E : Value → Shared → Prop}
  {name qual : Str} {params : Arguments} {body : List Stmt} {scope : Scope} {dV kV doc pm cdv ct oc : Value} {an od : Option Addr} {osl : Array (Option Value)} {m : Str → Option Value}
  (ho : (pre.heap_1_39 w.params).lookup 324 = some ⟨oc, od, .func (fnOf name qual params body scope dV kV doc pm an cdv ct), osl⟩)
  (X : (pre.heap_1_39 w.params).In H) (T : Top p loose mean mg mb H) (B : Below callerA H [] H) (C : CodeHd H 323 321)
  {P Cc : Addr} {ys : List Value} {yn : List Int} {k1 k2 : Nat} {n spot carry smax : Int} {tn t1 t2 : Tok} {o1 c2 o3 c4 c5 : Obj} {sc sh hx : Addr} {held : Int} {x : Str} {tx th : Tok} {R : Res} {oh : Obj} {kvs : List (Str × Value)} {ex : List (Addr × Obj)} {tab : Array Value} (F : Fr H L s.heap (fun y => if y = Str.ofString "held" then some (.int held th) else if y = Str.ofString "word" then some (.str x tx) else if y = Str.ofString "script" then some (.ref sc) else none)) (NC : News H L s.heap (core L P Cc ys k1 k2 spot carry t1 t2 o1 c2 o3 c4 c5 tab)) (NX : News H L s.heap ex) (CF : CoreF L P Cc o1 o3 n spot carry smax tn ys yn)
  (d2 : c2.data = .cell (some (.ref hx))) (d4 : c4.data = .cell (some (.ref sh))) (SF : ShF w ex P sh hx n held x R oh kvs)
  (hnext : ∀ h' tk', Fr H L h' (fun y => if y = Str.ofString "seen" then some (.bool (seenB held x)) else if y = Str.ofString "held" then some (.int held th) else if y = Str.ofString "word" then some (.str x tx) else if y = Str.ofString "script" then some (.ref sc) else none) → News H L h' (core L P Cc ys k1 k2 spot carry t1 t2 o1 c2 o3 c4 c5 tab) → News H L h' ex → Q .next { s with heap := h', toks := tk' }) :
  wpAny (model PySem.Challenge.rw_pb0473_01.row.prog w) (callerA.deeper (envOfC qual scope L a (.ref 323))) (execs ((body.drop 7).take 2) (envOfC qual scope L a (.ref 323))) Q E s := by
  revert X; k_fill; intro X
  k_dflt (refine' look_two ?e ho ?_; (case e => k_is))
  intro h2
  cases h2
  clear ho
  obtain ⟨l0, hn, d1, d3, hI, hl, hs, nc, ne2⟩ := CF; obtain ⟨hS, hm, hdk, hV, hK, hR, hxw, hlo, eP, e3, hb⟩ := SF; have N := newsApp NC NX; clear NC NX; dsimp only [core, List.cons_append, List.nil_append] at N; (try simp only [List.cons_append, List.nil_append] at N)
  refine cleanW ?_; (try dsimp only [List.drop, List.take]); (try k_fold)
  k_steps
  all_goals (try dsimp only)
  · (k_dflt (refine' hnext _ _ ?F1 ?N1 ?X1; (case F1 => exact fr_seen (seen1 (by assumption) (by assumption)) (by assumption)); (case N1 => (refine News.of_mem ?_ (by assumption : News H L _ (_ :: _)); exact ⟨by k_mem, by k_mem, by k_mem, by k_mem, by k_mem, by k_mem, by k_mem, by k_mem, trivial⟩)); (case X1 => (intro q hq; exact (by assumption : News H L _ (_ :: _)) q (by (repeat' first | exact hq | refine List.Mem.tail _ ?_))))))
  · (k_dflt (refine' hnext _ _ ?F2 ?N2 ?X2; (case F2 => exact fr_seen (seen2 (by assumption) (by assumption) (by assumption) (by decide +kernel)) (by assumption)); (case N2 => (refine News.of_mem ?_ (by assumption : News H L _ (_ :: _)); exact ⟨by k_mem, by k_mem, by k_mem, by k_mem, by k_mem, by k_mem, by k_mem, by k_mem, trivial⟩)); (case X2 => (intro q hq; exact (by assumption : News H L _ (_ :: _)) q (by (repeat' first | exact hq | refine List.Mem.tail _ ?_))))))
  · (k_dflt (refine' hnext _ _ ?F3 ?N3 ?X3; (case F3 => exact fr_seen (seen3 (by assumption)) (by assumption)); (case N3 => (refine News.of_mem ?_ (by assumption : News H L _ (_ :: _)); exact ⟨by k_mem, by k_mem, by k_mem, by k_mem, by k_mem, by k_mem, by k_mem, by k_mem, trivial⟩)); (case X3 => (intro q hq; exact (by assumption : News H L _ (_ :: _)) q (by (repeat' first | exact hq | refine List.Mem.tail _ ?_))))))

open PySem PySem.W PyProof.Rows PySem.Spec PySem.Calls PyProof.Rows.LCg
def lf_119 : Lean.MacroM Tc := `(tactic| (first | exact scrT (by assumption) (by assumption) | exact scrF (by assumption) (by assumption) | exact scrF' (by assumption) (by assumption) | exact priT (by assumption) (by assumption) | exact priF (by assumption) (by assumption) | exact priF' (by assumption) (by assumption)))
local macro_rules | `(tactic| walk_at "compareOp NotEq bool bool") => sq [kd [rf ``ne_bool_eq "e _", cs "e" lf_119]]
set_option maxRecDepth 100000 in
set_option maxHeartbeats 8000000 in
theorem seg5 {w : World} {p : Program} {loose : List Str} {mean : ExcName → Option Value} {mg mb : Str → Option Value} {H : Heap} {L a : Addr} {s : Shared} {Q : Flow → Shared → Prop} {E : Value → Shared → Prop}
  {name qual : Str} {params : Arguments} {body : List Stmt} {scope : Scope} {dV kV doc pm cdv ct oc : Value} {an od : Option Addr} {osl : Array (Option Value)} {m : Str → Option Value}
  (ho : (pre.heap_1_39 w.params).lookup 324 = some ⟨oc, od, .func (fnOf name qual params body scope dV kV doc pm an cdv ct), osl⟩)
  (X : (pre.heap_1_39 w.params).In H) (T : Top p loose mean mg mb H) (B : Below callerA H [] H) (C : CodeHd H 323 321)
  {P Cc : Addr} {ys : List Value} {yn : List Int} {k1 k2 : Nat} {n spot carry smax : Int} {tn t1 t2 : Tok} {o1 c2 o3 c4 c5 : Obj} {sc sh hx : Addr} {held : Int} {x : Str} {tx th : Tok} {R : Res} {oh : Obj} {kvs : List (Str × Value)} {ex : List (Addr × Obj)} {tab : Array Value} (F : Fr H L s.heap (fun y => if y = Str.ofString "seen" then some (.bool (seenB held x)) else if y = Str.ofString "held" then some (.int held th) else if y = Str.ofString "word" then some (.str x tx) else if y = Str.ofString "script" then some (.ref sc) else none)) (NC : News H L s.heap (core L P Cc ys k1 k2 spot carry t1 t2 o1 c2 o3 c4 c5 tab)) (NX : News H L s.heap ex) (CF : CoreF L P Cc o1 o3 n spot carry smax tn ys yn)
  (d2 : c2.data = .cell (some (.ref hx))) (d4 : c4.data = .cell (some (.ref sh))) (SF : ShF w ex P sh hx n held x R oh kvs)
  (hnext : ∀ h' tk', Fr H L h' (fun y => if y = Str.ofString "seen" then some (.bool (seenB held x)) else if y = Str.ofString "held" then some (.int held th) else if y = Str.ofString "word" then some (.str x tx) else if y = Str.ofString "script" then some (.ref sc) else none) → News H L h' (core L P Cc ys k1 k2 spot carry t1 t2 o1 c2 o3 c4 c5 tab) → News H L h' ex → Q .next { s with heap := h', toks := tk' }) :
  wpAny (model PySem.Challenge.rw_pb0473_01.row.prog w) (callerA.deeper (envOfC qual scope L a (.ref 323))) (execs ((body.drop 9).take 2) (envOfC qual scope L a (.ref 323))) Q E s := by
  revert X; k_fill; intro X
  k_dflt (refine' look_two ?e ho ?_; (case e => k_is))
  intro h2
  cases h2
  clear ho
  obtain ⟨l0, hn, d1, d3, hI, hl, hs, nc, ne2⟩ := CF; obtain ⟨hS, hm, hdk, hV, hK, hR, hxw, hlo, eP, e3, hb⟩ := SF; have N := newsApp NC NX; clear NC NX; dsimp only [core, List.cons_append, List.nil_append] at N; (try simp only [List.cons_append, List.nil_append] at N)
  refine cleanW ?_; (try dsimp only [List.drop, List.take]); (try k_fold)
  k_steps
  all_goals (try dsimp only)
  · (k_dflt (refine' hnext _ _ ?F1 ?N1 ?X1; (case F1 => assumption); (case N1 => (refine News.of_mem ?_ (by assumption : News H L _ (_ :: _)); exact ⟨by k_mem, by k_mem, by k_mem, by k_mem, by k_mem, by k_mem, by k_mem, by k_mem, trivial⟩)); (case X1 => (intro q hq; exact (by assumption : News H L _ (_ :: _)) q (by (repeat' first | exact hq | refine List.Mem.tail _ ?_))))))
  · (k_dflt (refine' hnext _ _ ?F2 ?N2 ?X2; (case F2 => assumption); (case N2 => (refine News.of_mem ?_ (by assumption : News H L _ (_ :: _)); exact ⟨by k_mem, by k_mem, by k_mem, by k_mem, by k_mem, by k_mem, by k_mem, by k_mem, trivial⟩)); (case X2 => (intro q hq; exact (by assumption : News H L _ (_ :: _)) q (by (repeat' first | exact hq | refine List.Mem.tail _ ?_))))))

end LawS4
section LawS6
open PySem PySem.W PyProof.Rows PySem.Spec PySem.Calls PyProof.Rows.LCg
local macro_rules | `(tactic| walk_at "callWith ref") => `(tactic| (k_here; k_dflt (refine' callWith_K ?k1 ?k2 ?_; (case k1 => k_asm); (case k2 => k_is); k_whole)))
local macro_rules | `(tactic| walk_at "call ref") => sq [shw 304 "rr", kd [rf ``pick_c "kW km kS kF kN kU kc kne kso kne2 kI kL ks _", css "kF:k kN:k kU:u kso:ir kW:rc km:dd kS:at kc:ir kne:a kne2:nn kI:a kL:a ks:ao", ys "w"], ins "x' t' spot' t1' carry' t2' h' tk' hx' hs' F' N'", ys "dN sw ds"]
local macro_rules | `(tactic| walk_at "call ref") => sq [shw 312 "r", kd [lf_81, sq [lf_82, css "kA:er kF:er kK:er k1:k k2:k k3:k k4:k kR:nl", cs "kd" lf_83, css "k5:k k6:ki k7:ki k8:ro", cs "k9" lf_84, css "c5:d", cs "kB" lf_85, css "c2:er c3:er c4:er", ys "w"]], ins "g' L' h' F' N' B' X' T' hR hS", lf_86, ys "ds"]
local macro_rules | `(tactic| walk_at "leaving ref") => sq [ys "h", lf_87, sq [rf ``leave_next "kB kf kF kN kR kU _", cs "kR" lf_88, css "kU:a kf:er kF:a kN:a kB:a"], lf_89, ins "h' R' U'", ys "ds"]
local macro_rules | `(tactic| walk_at "noteFrame ref") => sq [ys "h", lf_87, kd [lf_90, css "kF:a kB:a kU:a kX:a kT:a ke:ki kc:kr h1:r h2:r h3:d h4:po"], lf_89, ins "h' g' Tt' F' N' X'", ys "ds"]
def lf_120 : Lean.MacroM Tc := `(tactic| (intro hw'; exfalso; rw [bad_way _ (by assumption)] at hw'; cases hw'))
local macro_rules | `(tactic| walk_at "call ref") => sq [shw 180 "_", kd [rf ``shown_c "kH kl kd klo kval kV kva kK kS kF kN kh kr _", css "kF:k kN:k", cs "kH" lf_112, cs "kl" lf_113, css "kd:a klo:a kval:er", cs "kV" lf_114, css "kva:er", cs "kK" lf_116, cs "kS" yX, css "kh:r", cs "kr" lf_120], ins "hw' e' g2' h' tk' F' N' R' U'", lf_118, ys "ds"]
local macro_rules | `(tactic| k_all) => `(tactic| assumption)
set_option maxRecDepth 100000 in
set_option maxHeartbeats 8000000 in
theorem seg6 {w : World} {p : Program} {loose : List Str} {mean : ExcName → Option Value} {mg mb : Str → Option Value} {H : Heap} {L a : Addr} {s : Shared} {Q : Flow → Shared → Prop} {E : Value → Shared → Prop}
  {name qual : Str} {params : Arguments} {body : List Stmt} {scope : Scope} {dV kV doc pm cdv ct oc : Value} {an od : Option Addr} {osl : Array (Option Value)} {m : Str → Option Value}
  (ho : (pre.heap_1_39 w.params).lookup 324 = some ⟨oc, od, .func (fnOf name qual params body scope dV kV doc pm an cdv ct), osl⟩)
  (X : (pre.heap_1_39 w.params).In H) (T : Top p loose mean mg mb H) (B : Below callerA H [] H) (C : CodeHd H 323 321)
  {P Cc : Addr} {ys : List Value} {yn : List Int} {k1 k2 : Nat} {n spot carry smax : Int} {tn t1 t2 : Tok} {o1 c2 o3 c4 c5 : Obj} {sc sh hx : Addr} {held : Int} {x : Str} {tx th : Tok} {R : Res} {oh : Obj} {kvs : List (Str × Value)} {ex : List (Addr × Obj)} {c' : Addr} (F : Fr H L s.heap (fun y => if y = Str.ofString "seen" then some (.bool (seenB held x)) else if y = Str.ofString "held" then some (.int held th) else if y = Str.ofString "word" then some (.str x tx) else if y = Str.ofString "script" then some (.ref sc) else none)) (NC : News H L s.heap (core L P Cc ys k1 k2 spot carry t1 t2 o1 c2 o3 c4 c5 (#[] ++ #[rawInt 168, rawInt 24, .ref c']))) (NX : News H L s.heap ex) (CF : CoreF L P Cc o1 o3 n spot carry smax tn ys yn)
  (d2 : c2.data = .cell (some (.ref hx))) (d4 : c4.data = .cell (some (.ref sh))) (SF : ShF w ex P sh hx n held x R oh kvs)
  (hsm : smax ≤ 60)
  (hret : ∀ h' tk' m' ps news, Fr H L h' m' → News H L h' news → (321, tabObj ps) ∈ news → Q (.ret (.bool true)) { s with heap := h', toks := tk' }) :
  wpAny (model PySem.Challenge.rw_pb0473_01.row.prog w) (callerA.deeper (envOfC qual scope L a (.ref 323))) (execs ((body.drop 11).take 1) (envOfC qual scope L a (.ref 323))) Q E s := by
  revert X; k_fill; intro X
  k_dflt (refine' look_two ?e ho ?_; (case e => k_is))
  intro h2
  cases h2
  clear ho
  obtain ⟨l0, hn, d1, d3, hI, hl, hs, nc, ne2⟩ := CF; obtain ⟨hS, hm, hdk, hV, hK, hR, hxw, hlo, eP, e3, hb⟩ := SF; have N := newsApp NC NX; clear NC NX; dsimp only [core, List.cons_append, List.nil_append] at N; (try simp only [List.cons_append, List.nil_append] at N)
  refine cleanW ?_; (try dsimp only [List.drop, List.take]); (try k_fold)
  k_steps
  all_goals (try dsimp only)
  k_dflt (refine' hret _ _ _ _ _ ?F ?N ?M; (case F => assumption); (case N => exact (by assumption : News H L _ (_ :: _))); (case M => k_mem))

end LawS6
section LawAll
open PySem PySem.W PyProof.Rows PySem.Spec PySem.Calls PyProof.Rows.LCg
theorem cut_at {α : Type} (b : List α) (i k : Nat) : (b.drop i).take k ++ b.drop (i + k) = b.drop i := by
  rw [← List.drop_drop]; exact List.take_append_drop k (b.drop i)
theorem execs_cut6 {M : Model} {A : Around} {E : Value → Shared → Prop} {env : Env} {body : List Stmt} {Q : Flow → Shared → Prop} {s : Shared} (h : body.length = 12)
    (H : wpAny M A (execs ((body.drop 0).take 4 ++ ((body.drop 4).take 1 ++ ((body.drop 5).take 2 ++ ((body.drop 7).take 2 ++ ((body.drop 9).take 2 ++ (body.drop 11).take 1))))) env) Q E s) : wpAny M A (execs body env) Q E s := by
  have e6 : (body.drop 11).take 1 = body.drop (9 + 2) := List.take_of_length_le (by rw [List.length_drop]; omega)
  rw [e6, cut_at body 9 2, cut_at body 7 2, cut_at body 5 2, cut_at body 4 1, cut_at body 0 4, List.drop_zero] at H
  exact H
def fnLen (K : Frag) (f : Addr) : Option Nat := (K.lookup f).bind fun o => match o.data with
  | .func fd => (match fd.body with | .stmts b => some b.length | _ => none)
  | _ => none
theorem fnLen_of {K : Frag} {f : Addr} {k : Nat} {name qual : Str} {params : Arguments} {body : List Stmt} {scope : Scope} {dV kV doc pm cdv ct oc : Value} {an od : Option Addr} {osl : Array (Option Value)}
    (ho : K.lookup f = some ⟨oc, od, .func (fnOf name qual params body scope dV kV doc pm an cdv ct), osl⟩) (e : fnLen K f = some k) : body.length = k := by
  unfold fnLen at e
  rw [ho] at e
  exact Option.some.inj e
set_option maxRecDepth 100000 in
set_option maxHeartbeats 8000000 in
theorem law_all {w : World} {p : Program} {loose : List Str} {mean : ExcName → Option Value} {mg mb : Str → Option Value} {H : Heap} {L sc a : Addr} {c1 c2 c3 c4 c5 : Obj} {vs : List Value} {ns : List Int} {s : Shared} {Q : Flow → Shared → Prop} {E : Value → Shared → Prop}
  {name qual : Str} {params : Arguments} {body : List Stmt} {scope : Scope} {dV kV doc pm cdv ct oc : Value} {an od : Option Addr} {osl : Array (Option Value)}
  (ho : (pre.heap_1_39 w.params).lookup 324 = some ⟨oc, od, .func (fnOf name qual params body scope dV kV doc pm an cdv ct), osl⟩)
  (X : (pre.heap_1_39 w.params).In H) (T : Top p loose mean mg mb H) (B : Below callerA H [] H) (C : CodeHd H 323 321) (F : Fr H L s.heap (fun y => if y = Str.ofString "script" then some (.ref sc) else none))
  (N : News H L s.heap [(L + 1 + 1 + 1 + 1 + 1, c5), (L + 1 + 1 + 1 + 1, c4), (L + 1 + 1 + 1, c3), (L + 1 + 1, c2), (L + 1, c1), (321, tabObj #[])])
  (d1 : c1.data = .cell none) (d2 : c2.data = .cell none) (d3 : c3.data = .cell none) (d4 : c4.data = .cell none) (d5 : c5.data = .cell none)
  (l0 : @LT.lt Nat _ 321 L) (hL : H.IsList sc vs.toArray) (hI : IntsAre vs ns) (hlen : ns.length ≤ 63)
  (hret : ∀ h' tk' m' ps news, Fr H L h' m' → News H L h' news → (321, tabObj ps) ∈ news → Q (.ret (.bool true)) { s with heap := h', toks := tk' }) :
  wpAny (model PySem.Challenge.rw_pb0473_01.row.prog w) (callerA.deeper (envOfC qual scope L a (.ref 323))) (execs body (envOfC qual scope L a (.ref 323))) Q E s := by
  have hb : body.length = 12 := fnLen_of ho (by kernel_rfl)
  refine execs_cut6 hb (execs_app (seg1 (m := fun _ => none) ho X T B C F N d1 d2 d3 d4 d5 l0 hL hI hlen ?_))
  intro P Cc ys k1 k2 spot carry t1 t2 o1 o3 c5' yn n tn W us kW h1 tk1 F1 N1 CF1 e5 NW hW neW
  refine execs_app (seg2 (m := fun _ => none) ho X T B C F1 N1 CF1 (by decide) e5 NW hW neW ?_)
  intro spot2 carry2 t12 t22 c' h2 tk2 hs2 F2 N2
  have CF2 : CoreF L P Cc o1 o3 n spot2 carry2 2 tn ys yn := ⟨CF1.l0, CF1.hn, CF1.d1, CF1.d3, CF1.hI, CF1.hl, ⟨hs2.1, by have := CF1.hs; omega, hs2.2.2⟩, CF1.nc, CF1.ne2⟩
  refine execs_app (seg3 (m := fun _ => none) ho X T B C F2 N2 CF2 (by decide) d2 d4 ?_)
  intro ex sh hx oh kvs x tx th R held spot3 carry3 t13 t23 c2' c4' h3 tk3 hs3 F3 N3 NX3 e2 e4 SF
  have CF3 : CoreF L P Cc o1 o3 n spot3 carry3 5 tn ys yn := ⟨CF1.l0, CF1.hn, CF1.d1, CF1.d3, CF1.hI, CF1.hl, ⟨hs3.1, by have := CF2.hs; omega, hs3.2.2⟩, CF1.nc, CF1.ne2⟩
  refine execs_app (seg4 (m := fun _ => none) ho X T B C F3 N3 NX3 CF3 e2 e4 SF ?_)
  intro h4 tk4 F4 N4 NX4
  refine execs_app (seg5 (m := fun _ => none) ho X T B C F4 N4 NX4 CF3 e2 e4 SF ?_)
  intro h5 tk5 F5 N5 NX5
  exact seg6 (m := fun _ => none) ho X T B C F5 N5 NX5 CF3 e2 e4 SF (by decide) hret

end LawAll
end Mine
open PySem.Spec PySem.Calls PyProof.Rows.LCg
theorem Mine.main.tw1749766207471926836 : True := True.intro
theorem Mine.main.tw11156056980113079860 : True := True.intro
theorem Mine.main.tw17919239186061524276 : True := True.intro
theorem Mine.main.tw4330839770774038799 : True := True.intro
theorem Mine.main.tw16502563530920929011 : True := True.intro
theorem Mine.main.tw16826212616301561204 : True := True.intro
theorem Mine.main.tw8785732689226369382 : True := True.intro
theorem Mine.main.tw18416621389825580785 : True := True.intro
theorem Mine.main.tw16138396744621940715 : True := True.intro
theorem Mine.main.tw8936924024312948488 : True := True.intro
theorem Mine.main.tw14788915703135433725 : True := True.intro
theorem Mine.main.tw4458048076830672230 : True := True.intro
theorem Mine.main.tw2961873367106011192 : True := True.intro
theorem Mine.main.tw14625788440519214713 : True := True.intro
theorem Mine.main.tw14437343929415594154 : True := True.intro
theorem Mine.main.tw18302796317244248524 : True := True.intro
theorem Mine.main.tw15485851114877660061 : True := True.intro
theorem Mine.main.tw4651154628705390771 : True := True.intro
theorem Mine.main.tw3557749057250611081 : True := True.intro
theorem Mine.main.tw10665089971535097683 : True := True.intro
theorem Mine.main.tw52199770228462824 : True := True.intro
theorem Mine.main.tw4996873109452691289 : True := True.intro
theorem Mine.main.tw17052023290607921161 : True := True.intro
theorem Mine.main.tw834873547066669988 : True := True.intro
theorem Mine.main.tw7186131708394509389 : True := True.intro
theorem Mine.main.tw12455012482086183272 : True := True.intro
theorem Mine.main.tw6334894449686545209 : True := True.intro
theorem Mine.main.tw3626430660855392483 : True := True.intro
theorem Mine.main.tw5649967823195072380 : True := True.intro
theorem Mine.main.tw10896356407431480244 : True := True.intro
theorem Mine.main.tw962032349192862916 : True := True.intro
theorem Mine.main.tw18442785490491869365 : True := True.intro
theorem Mine.main.tw17477492558424962760 : True := True.intro
theorem Mine.main.tw12431731261707249289 : True := True.intro
theorem Mine.main.tw3045742163950154196 : True := True.intro
theorem Mine.main.tw6361450105264607166 : True := True.intro
theorem Mine.main.tw9563168847844234846 : True := True.intro
theorem Mine.main.tw17695171507069755227 : True := True.intro
theorem Mine.main.tw14439473939278146460 : True := True.intro
theorem Mine.main.tw750237026923860459 : True := True.intro
theorem Mine.main.tw10609540516017602915 : True := True.intro
theorem Mine.main.tw7308723440029596264 : True := True.intro
theorem Mine.main.tw10177057350305019805 : True := True.intro
theorem Mine.main.tw7221758910455160077 : True := True.intro
theorem Mine.main.tw7268301785047649679 : True := True.intro
theorem Mine.main.tw1545906260438175962 : True := True.intro
theorem Mine.main.tw4500915450034043215 : True := True.intro
theorem Mine.main.tw4126091431370883743 : True := True.intro
theorem Mine.main.tw1850612553970854742 : True := True.intro
theorem Mine.main.tw11646826074482590764 : True := True.intro
theorem Mine.main.tw9656510801202774680 : True := True.intro
theorem Mine.main.tw6557543464795787104 : True := True.intro
theorem Mine.main.tw11857135199678951331 : True := True.intro
theorem Mine.main.tw13803360072150633466 : True := True.intro
theorem Mine.main.tw16656740534632174751 : True := True.intro
theorem Mine.main.tw10094358506670053839 : True := True.intro
theorem Mine.main.tw8488872178611200430 : True := True.intro
theorem Mine.main.tw10821422270917381399 : True := True.intro
theorem Mine.main.tw9840939614602229412 : True := True.intro
theorem Mine.main.tw14771111431291430275 : True := True.intro
theorem Mine.main.tw8947760058931562597 : True := True.intro
theorem Mine.main.tw8467378866343419333 : True := True.intro
theorem Mine.main.tw6545385358150927430 : True := True.intro
theorem Mine.main.tw3960113756560652017 : True := True.intro
theorem Mine.main.tw6886502059237256666 : True := True.intro
theorem Mine.main.tw17450470499104002142 : True := True.intro
theorem Mine.main.tw9682133043923132273 : True := True.intro
theorem Mine.main.tw15806524323241146399 : True := True.intro
theorem Mine.main.tw11261727412033496967 : True := True.intro
theorem Mine.main.tw6222487380544312443 : True := True.intro
theorem Mine.main.tw5613160597433933154 : True := True.intro
theorem Mine.main.tw13667920496262714385 : True := True.intro
theorem Mine.main.tw18332899500509843999 : True := True.intro
theorem Mine.main.tw18421580907717582127 : True := True.intro
theorem Mine.main.tw3613476055612923068 : True := True.intro
theorem Mine.main.tw14646587721710459877 : True := True.intro
theorem Mine.main.tw13224007501803129859 : True := True.intro
theorem Mine.main.tw5061512775090418087 : True := True.intro
theorem Mine.main.tw17510229520200029679 : True := True.intro
theorem Mine.main.tw3934531018447913466 : True := True.intro
theorem Mine.main.tw11403851563620829512 : True := True.intro
theorem Mine.main.tw1264294196387467257 : True := True.intro
theorem Mine.main.tw18403998269306519403 : True := True.intro
theorem Mine.main.tw15491723280356408159 : True := True.intro
theorem Mine.main.tw7411558596216406370 : True := True.intro
theorem Mine.main.tw11544348965984651327 : True := True.intro
theorem Mine.main.tw6912675738884088206 : True := True.intro
theorem Mine.main.tw12483276189755474720 : True := True.intro
theorem Mine.main.tw3234112476842188716 : True := True.intro
theorem Mine.main.tw8440099810896429113 : True := True.intro
theorem Mine.main.tw16819838333489098493 : True := True.intro
theorem Mine.main.tw12343854547171428336 : True := True.intro
theorem Mine.main.tw16923884221124529275 : True := True.intro
theorem Mine.main.tw1306636233014830658 : True := True.intro
theorem Mine.main.tw16721930046160240684 : True := True.intro
theorem Mine.main.tw11101190512080308003 : True := True.intro
theorem Mine.main.tw14539993770535171780 : True := True.intro
theorem Mine.main.tw14909365282108701170 : True := True.intro
theorem Mine.main.tw16965079339398995527 : True := True.intro
theorem Mine.main.tw17561526911342447988 : True := True.intro
theorem Mine.main.tw11501822485730972192 : True := True.intro
theorem Mine.main.tw3549514262204291990 : True := True.intro
theorem Mine.main.tw832900586485598795 : True := True.intro
theorem Mine.main.tw17236958762192778904 : True := True.intro
theorem Mine.main.tw5240779543111244032 : True := True.intro
theorem Mine.main.tw14457758005677747962 : True := True.intro
theorem Mine.main.tw12518504611687188807 : True := True.intro
theorem Mine.main.tw9498315638749924794 : True := True.intro
theorem Mine.main.tw7699798408344515789 : True := True.intro
theorem Mine.main.tw12670839924663504800 : True := True.intro
theorem Mine.main.tw4839478117068044826 : True := True.intro
theorem Mine.main.tw4026956272090484662 : True := True.intro
theorem Mine.main.tw1099256609624015869 : True := True.intro
theorem Mine.main.tw6511744376749373798 : True := True.intro
theorem Mine.main.tw16778611742570070204 : True := True.intro
theorem Mine.main.tw17336282652733537790 : True := True.intro
theorem Mine.main.tw16046730324260685337 : True := True.intro
theorem Mine.main.tw14759895335926876869 : True := True.intro
theorem Mine.main.tw2629084897520917108 : True := True.intro
theorem Mine.main.tw6508729118710982530 : True := True.intro
theorem Mine.main.tw7235775444256392728 : True := True.intro
theorem Mine.main.tw8207831470162742035 : True := True.intro
theorem Mine.main.tw13113777628852026922 : True := True.intro
theorem Mine.main.tw15734200111481486640 : True := True.intro
theorem Mine.main.tw8905464785575363620 : True := True.intro
theorem Mine.main.tw1826329307503635854 : True := True.intro
theorem Mine.main.tw12361340156312767134 : True := True.intro
theorem Mine.main.tw2496676261509829067 : True := True.intro
theorem Mine.main.tw15017983477296125989 : True := True.intro
theorem Mine.main.tw13693970394777133609 : True := True.intro
theorem Mine.main.tw4775608329324902142 : True := True.intro
theorem Mine.main.tw10707853282979444102 : True := True.intro
theorem Mine.main.tw1270039299266317192 : True := True.intro
theorem Mine.main.tw10234815189450012239 : True := True.intro
theorem Mine.main.tw6697339332421208802 : True := True.intro
theorem Mine.main.tw17223442867436993403 : True := True.intro
theorem Mine.main.tw1777545030009416734 : True := True.intro
theorem Mine.main.tw3343439749351644125 : True := True.intro
theorem Mine.main.tw12057704586751987240 : True := True.intro
theorem Mine.main.tw5665735395497279834 : True := True.intro
theorem Mine.main.tw6862492499505807319 : True := True.intro
theorem Mine.main.tw12872379398031375081 : True := True.intro
theorem Mine.main.tw10450603732522932521 : True := True.intro
theorem Mine.main.tw14722489848711283861 : True := True.intro
theorem Mine.main.tw9265829497004654079 : True := True.intro
theorem Mine.main.tw9361300454564663673 : True := True.intro
theorem Mine.main.tw13876859957761632879 : True := True.intro
theorem Mine.main.tw4900431672193113347 : True := True.intro
theorem Mine.main.tw13838900630717943254 : True := True.intro
theorem Mine.main.tw5585478044538960755 : True := True.intro
theorem Mine.main.tw3027586509356016917 : True := True.intro
theorem Mine.main.tw2906824675625879941 : True := True.intro
theorem Mine.main.tw16572128252103988241 : True := True.intro
theorem Mine.main.tw4475767826048309731 : True := True.intro
theorem Mine.main.tw16798622893749714585 : True := True.intro
theorem Mine.main.tw6112859857366181021 : True := True.intro
theorem Mine.main.tw16193401482309157537 : True := True.intro
theorem Mine.main.tw4990475226369331113 : True := True.intro
theorem Mine.main.tw2702614204127132176 : True := True.intro
theorem Mine.main.tw13350764725976880583 : True := True.intro
theorem Mine.main.tw8475525182357872103 : True := True.intro
theorem Mine.main.tw1054321117371714560 : True := True.intro
theorem Mine.main.tw16952715711813285254 : True := True.intro
theorem Mine.main.tw5401703158475992631 : True := True.intro
theorem Mine.main.tw11752208632293872130 : True := True.intro
theorem Mine.main.tw16102231251864390963 : True := True.intro
theorem Mine.main.tw2895952525429962455 : True := True.intro
theorem Mine.main.tw65644731488775911 : True := True.intro
theorem Mine.main.tw4261964983698606537 : True := True.intro
theorem Mine.main.tw451873465583785326 : True := True.intro
theorem Mine.main.tw8228058824784995430 : True := True.intro
theorem Mine.main.tw15734660467963936456 : True := True.intro
theorem Mine.main.tw8466321980469482115 : True := True.intro
theorem Mine.main.tw2225956059507018244 : True := True.intro
theorem Mine.main.tw16035907590883218939 : True := True.intro
theorem Mine.main.tw7214478077546791972 : True := True.intro
theorem Mine.main.tw12252054271945606052 : True := True.intro
theorem Mine.main.tw11003572833241299968 : True := True.intro
theorem Mine.main.tw11982392923317675503 : True := True.intro
theorem Mine.main.tw11461230924637031220 : True := True.intro
theorem Mine.main.tw66260789543402106 : True := True.intro
theorem Mine.main.tw6385024630547198690 : True := True.intro
theorem Mine.main.tw5372645768047454471 : True := True.intro
theorem Mine.main.tw14672674291997333471 : True := True.intro
theorem Mine.main.tw7074144079889050967 : True := True.intro
theorem Mine.main.tw13642826006792871662 : True := True.intro
theorem Mine.main.tw3299218664060906527 : True := True.intro
theorem Mine.main.tw5084117380071580128 : True := True.intro
theorem Mine.main.tw12205347405646519318 : True := True.intro
theorem Mine.main.tw2724176850512262202 : True := True.intro
theorem Mine.main.tw2019394398466159022 : True := True.intro
set_option maxRecDepth 100000 in
set_option maxHeartbeats 8000000 in
set_option Elab.async true in
theorem Mine.main : PySem.Challenge.rw_pb0473_01.Holds := by
  refine' Mine.two ?m ?hc
  case' m => intro hx; clear hx
  case m =>
    w_on; o_law; k_head; (case hw => w_witness2)
  case hc =>
    k_go0
    k_dflt (refine' Mine.law_all ?fin_ho ?fin_X ?fin_T ?fin_B ?fin_C ?fin_F ?fin_N ?fin_d1 ?fin_d2 ?fin_d3 ?fin_d4 ?fin_d5 ?fin_l0 ?fin_hL ?fin_hI ?fin_hlen ?fin_hret; (case fin_F => assumption))
    case fin_N => assumption
    case fin_ho => k_is
    case fin_X => assumption
    case fin_T => assumption
    case fin_B => assumption
    case fin_C => assumption
    case fin_hL => assumption
    case fin_hI => assumption
    case fin_l0 => assumption
    case fin_d1 => assumption
    case fin_d2 => assumption
    case fin_d3 => assumption
    case fin_d4 => assumption
    case fin_d5 => assumption
    case fin_hlen => omega
    case fin_hret =>
      intro h' tk' m' ps news F' N' hm'
      refine ⟨?_, ⟨GrownAt.of N' hm', trivial⟩⟩
      (try dsimp only)
      first | wrow_close | (k_end; wrow_close)
theorem PySem.Challenge.cw_pb0473_01_holds : PySem.Challenge.rw_pb0473_01.Holds :=
  Mine.main
