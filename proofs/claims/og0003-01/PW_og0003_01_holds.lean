import PyProof.Rows.All
import Wide.All
import OpenK.AllK
import Wide.FinOn
import PySem.Challenge.RW_og0003_01
open PySem PySem.W PyProof.Rows
set_option maxRecDepth 100000
set_option maxHeartbeats 8000000
namespace Mine.A
theorem tw5646922470258286333 : True := trivial
theorem tw14524312679804792030 : True := trivial
theorem tw18130948467109956673 : True := trivial
theorem tw9239368896403867088 : True := trivial
theorem tw8516273353859780471 : True := trivial
theorem tw6699378863078117242 : True := trivial
theorem tw7317773473285054138 : True := trivial
theorem tw13912485018637289483 : True := trivial
theorem tw13845670261993937712 : True := trivial
theorem tw800288260615561738 : True := trivial
theorem tw9108012516609672523 : True := trivial
theorem tw9330461196102357999 : True := trivial
theorem tw17321946786577117554 : True := trivial
theorem tw4694398569635553440 : True := trivial
theorem tw3463253621172399337 : True := trivial
theorem tw5968286099976699413 : True := trivial
theorem tw18005550745875178585 : True := trivial
theorem tw8594346847490577747 : True := trivial
theorem tw8404596279289937444 : True := trivial
theorem tw15651759252944031272 : True := trivial
theorem tw5280557442100251414 : True := trivial
theorem tw16535110132781621208 : True := trivial
theorem tw10623492163851505980 : True := trivial
theorem tw8987717726944127092 : True := trivial
theorem tw10862360618332259451 : True := trivial
theorem tw15666455104928787398 : True := trivial
theorem tw13941243273370604029 : True := trivial
theorem tw699203332453487558 : True := trivial
theorem tw13944786943020688460 : True := trivial
theorem tw17185615526893398427 : True := trivial
theorem tw17608226932395296344 : True := trivial
theorem tw15820644819769687525 : True := trivial
theorem tw3590044687136301311 : True := trivial
theorem tw6090040501322794734 : True := trivial
theorem tw2578747549972661880 : True := trivial
theorem tw10570652382700743470 : True := trivial
theorem tw5717791897401875922 : True := trivial
theorem tw9558167310509322084 : True := trivial
theorem tw14640073786475855054 : True := trivial
theorem tw6116935520198603998 : True := trivial
theorem tw11845079987636645885 : True := trivial
theorem tw2089942979232059386 : True := trivial
theorem tw2317631421645595598 : True := trivial
theorem tw6371013250654783320 : True := trivial
theorem tw13901490562181791689 : True := trivial
theorem tw10072462647798173283 : True := trivial
theorem tw10397425127279270359 : True := trivial
theorem tw13800049220798664325 : True := trivial
theorem tw8798309112693458513 : True := trivial
theorem tw17701990555232960181 : True := trivial
theorem tw6657037248104155061 : True := trivial
theorem tw18336653840445685344 : True := trivial
theorem tw8519229878729342897 : True := trivial
theorem tw10026999487780401305 : True := trivial
theorem tw18171756525254187846 : True := trivial
theorem tw13565346996315856338 : True := trivial
theorem tw12158450374030200027 : True := trivial
theorem tw17588544588799770205 : True := trivial
theorem tw12249154782579388875 : True := trivial
theorem tw7298869085716328838 : True := trivial
theorem tw16474260267835395888 : True := trivial
theorem tw12211653732536415464 : True := trivial
theorem tw10816026347592831972 : True := trivial
theorem tw3225541090127029038 : True := trivial
theorem tw855821209269619670 : True := trivial
theorem tw17030307043265249829 : True := trivial
theorem tw1699350913986234808 : True := trivial
theorem tw18129448782544711847 : True := trivial
theorem tw17651492873127651204 : True := trivial
theorem tw17557972708600191574 : True := trivial
theorem tw4880037793248202395 : True := trivial
theorem tw10021039416362780631 : True := trivial
theorem tw4933987541611185837 : True := trivial
theorem tw17231388000189077470 : True := trivial
theorem tw4769447964676285013 : True := trivial
theorem tw4439852803860106298 : True := trivial
theorem tw6762559507777683261 : True := trivial
theorem tw11120391450859820794 : True := trivial
theorem tw490903668815849227 : True := trivial
theorem tw6128272138994977889 : True := trivial
theorem tw4287973789179061465 : True := trivial
theorem tw3901768462942692084 : True := trivial
theorem tw2041301089039493187 : True := trivial
theorem tw7477984813137573827 : True := trivial
theorem tw9806474721242631386 : True := trivial
theorem tw5438593728714801045 : True := trivial
theorem tw15767455170045860819 : True := trivial
theorem tw7872350479427503936 : True := trivial
theorem tw261529181547533586 : True := trivial
theorem tw7408268403898070082 : True := trivial
theorem tw16956778148610542133 : True := trivial
theorem tw2486571173102219427 : True := trivial
theorem tw6988297453264352631 : True := trivial
theorem tw15803059323492890596 : True := trivial
theorem tw3032382134361107673 : True := trivial
theorem tw34520239376917337 : True := trivial
theorem tw8346830044339109405 : True := trivial
theorem tw850267871183069548 : True := trivial
theorem tw14086632167256073307 : True := trivial
theorem tw5063577495763476793 : True := trivial
theorem tw9195098476261063381 : True := trivial
theorem tw9087395508773461129 : True := trivial
theorem tw935492599192189830 : True := trivial
theorem tw9347990616583948654 : True := trivial
theorem tw3750019666174379691 : True := trivial
theorem tw4698480349694128732 : True := trivial
theorem tw16551175315185256443 : True := trivial
theorem tw8021711566281527607 : True := trivial
theorem tw4560748696422708786 : True := trivial
theorem tw15064468505276874019 : True := trivial
theorem tw13063777383608524679 : True := trivial
theorem tw3905709458322391898 : True := trivial
theorem tw11270721526486296795 : True := trivial
theorem tw7381026096172310714 : True := trivial
theorem tw6099614033022913507 : True := trivial
theorem tw6856667584757585467 : True := trivial
theorem tw12770712744205445925 : True := trivial
theorem tw12590405579434009150 : True := trivial
theorem tw6731169497884731909 : True := trivial
theorem tw17265793024436209032 : True := trivial
theorem tw15045594764332057067 : True := trivial
theorem tw17576342087534555285 : True := trivial
theorem tw9188154737680886506 : True := trivial
theorem tw8333188820563407583 : True := trivial
theorem tw8944927634293200873 : True := trivial
theorem tw7656298970873689217 : True := trivial
theorem tw2619348551767789423 : True := trivial
theorem tw703404535178680617 : True := trivial
theorem tw16805892491256692878 : True := trivial
theorem tw2145587185378226586 : True := trivial
theorem tw8199510384225926604 : True := trivial
theorem tw4851068541086966649 : True := trivial
theorem tw3779954730972827617 : True := trivial
theorem tw12497510047100357672 : True := trivial
theorem tw10202860995296317453 : True := trivial
theorem tw15893384908987445517 : True := trivial
theorem tw17424345863993925839 : True := trivial
theorem tw6197831156564302322 : True := trivial
theorem tw2397982067266058691 : True := trivial
theorem tw1704547627021013832 : True := trivial
theorem tw309172435901631055 : True := trivial
theorem tw953347905778266761 : True := trivial
theorem tw15232271303890837422 : True := trivial
theorem tw3097375979316279032 : True := trivial
theorem tw4009059471814248442 : True := trivial
theorem tw12274183915114827936 : True := trivial
theorem tw3520101585507065111 : True := trivial
theorem tw8556327521946648191 : True := trivial
theorem tw2655827412422658475 : True := trivial
theorem tw2646225040847648250 : True := trivial
theorem tw15214133572383827019 : True := trivial
theorem tw1336414390081735327 : True := trivial
theorem tw5851930464022314547 : True := trivial
theorem tw2361301986726502171 : True := trivial
theorem tw9280875747140711406 : True := trivial
theorem tw601494962873719569 : True := trivial
theorem tw12821605638087770355 : True := trivial
theorem tw9341035674189962898 : True := trivial
theorem tw14410150575481013492 : True := trivial
theorem tw320719233094236848 : True := trivial
theorem tw11782766393690192119 : True := trivial
theorem tw3578949690207109890 : True := trivial
theorem tw17387989551417737535 : True := trivial
theorem tw7466347491083085377 : True := trivial
theorem tw3561405718836670831 : True := trivial
theorem tw13986006028418849661 : True := trivial
theorem tw270732706397237368 : True := trivial
theorem tw17185435087925960648 : True := trivial
theorem tw4271548390702382932 : True := trivial
theorem tw413507915095358216 : True := trivial
theorem tw908413226068163364 : True := trivial
theorem tw12306416302495383327 : True := trivial
theorem tw16457305751429185707 : True := trivial
theorem tw5909507863118191236 : True := trivial
theorem tw15515620685523319356 : True := trivial
theorem tw672884048919502786 : True := trivial
theorem tw2748813518545639301 : True := trivial
theorem tw18310837486667892382 : True := trivial
theorem tw18072665961378106095 : True := trivial
theorem tw15462925542293431403 : True := trivial
theorem tw7218625047367774376 : True := trivial
theorem tw10546698098467288276 : True := trivial
theorem tw6669051648457815636 : True := trivial
theorem tw14180008949630913882 : True := trivial
theorem tw8321442917555062787 : True := trivial
theorem tw9961147831584205061 : True := trivial
theorem tw13798812775331232473 : True := trivial
theorem tw6054148583450679396 : True := trivial
theorem tw1759470579768173563 : True := trivial
theorem tw11371840925564716707 : True := trivial
theorem tw4845881443935673761 : True := trivial
theorem tw14042563253279214323 : True := trivial
theorem tw6761852518884551561 : True := trivial
theorem tw15882595290012317254 : True := trivial
theorem tw10360141465679914172 : True := trivial
theorem tw4456024214130782563 : True := trivial
theorem tw12351562055525246170 : True := trivial
theorem tw16845677339596616797 : True := trivial
theorem tw9395108093613962055 : True := trivial
theorem tw14567643263091367839 : True := trivial
theorem tw4996958853835839875 : True := trivial
theorem tw15151754272333723087 : True := trivial
theorem tw12235902816281339647 : True := trivial
theorem tw4879858339848890682 : True := trivial
theorem tw14830431077550058880 : True := trivial
theorem tw5354617332184810206 : True := trivial
theorem tw9004470140057946426 : True := trivial
theorem tw6849152466612643847 : True := trivial
theorem tw866788653764307316 : True := trivial
theorem tw2078149338653470325 : True := trivial
theorem tw6736632225956253418 : True := trivial
theorem tw16214015263765000864 : True := trivial
theorem tw1639888240943889953 : True := trivial
theorem tw8500985856041522138 : True := trivial
theorem tw15334364220653277015 : True := trivial
theorem tw7934867627965050574 : True := trivial
theorem tw13652015567696784153 : True := trivial
theorem tw3887939408106649945 : True := trivial
theorem tw6683270313163635850 : True := trivial
theorem tw12943351600140882041 : True := trivial
theorem tw17081493621715386561 : True := trivial
theorem tw5084927619942805773 : True := trivial
theorem tw1687439242827765177 : True := trivial
theorem tw9758157028798273370 : True := trivial
theorem tw1043431010513513991 : True := trivial
theorem tw11153857568920386817 : True := trivial
theorem tw13003297912302545092 : True := trivial
theorem tw12614480925648416948 : True := trivial
theorem tw9526023924766411023 : True := trivial
theorem tw10525145064990756788 : True := trivial
theorem tw948029687055606022 : True := trivial
theorem tw12200482899170234306 : True := trivial
theorem tw1311372485265928699 : True := trivial
theorem tw18324720427601929890 : True := trivial
theorem tw5648838977469288192 : True := trivial
theorem tw4086698677121603571 : True := trivial
theorem tw1195494609962619170 : True := trivial
theorem tw12290213792503615786 : True := trivial
theorem tw14611287644896202037 : True := trivial
theorem tw16185400222075743487 : True := trivial
theorem tw14081273363843944449 : True := trivial
theorem tw12254969807103777352 : True := trivial
theorem tw11832268708022596914 : True := trivial
theorem tw6401579719291748816 : True := trivial
end Mine.A
theorem Mine.A : True := by
  first
  | (have h : PySem.Challenge.rw_og0003_01.Holds := (let rec hd : PySem.Challenge.rw_og0003_01.Holds := ((by (set_option Elab.async false in (w_on; o_law; k_head; (case hw => w_witness2))); fail : PySem.Challenge.rw_og0003_01.Holds) :); hd))
  | trivial
set_option Elab.async false
theorem Mine.A.waited : True := by
  exact Mine.A
theorem Mine.A.waits : True := by
  exact Mine.A.waited
set_option rowWalk.seconds 0
namespace Mine.A
open_top hd for PySem.Challenge.rw_og0003_01
theorem topOff : True := by
  w_top off
  trivial
local macro_rules | `(tactic| omega) => `(tactic| ((fail_if_success (fail_if_success (omega +splitDisjunctions))); first
  | with_reducible exact Nat.ne_of_lt (by assumption) | with_reducible exact Nat.ne_of_gt (by assumption)
  | lia))
section
abbrev prg : Program := PySem.Challenge.rw_og0003_01.row.prog
abbrev Led := List (Addr × Obj)
abbrev seqO (c : String) (vs : List Value) (n : Nat) : Obj := { cls := .type c, data := .seq vs.toArray n }

/-- a contract of a def of the text: called with `vs` over the ledger `news` -/
def CallSpec (w : World) (f : Addr) (vs : List Value) (lv : Nat) (H : Option Value → Heap → Prop) (news : Led) (Post : Value → Led → Prop) : Prop :=
  ∀ (p : Program) (loose : List Str) (mean : ExcName → Option Value) (mg mb : Str → Option Value) (hh : Option Value) (dp un : Nat) (gd : Option (List Code)) (env : Env) (outer : List Env) (A₀ : Around) (base h₀ : Heap) (L : Addr) (m : Str → Option Value) (s : Shared) (Q E : Value → Shared → Prop),
    Below A₀ base outer h₀ → Fr h₀ L s.heap m → (hd.heap_39 w.params).In h₀ → News h₀ L s.heap news → Top p loose mean mg mb h₀ → env.frame = some L → env.scope.kind = .function → H hh h₀ → dp + 10 * lv < recursionLimit → un + 100 * lv < cLine →
    (∀ v h' tk' news', Fr h₀ L h' m → News h₀ L h' news' → Post v news' → Q v { s with heap := h', toks := tk' }) →
    wpAny (model prg w) { handled := hh, depth := dp, frames := some (env :: outer), guards := gd, units := un } (call (.ref f) vs) Q E s

/-- how a contract is shown: the state in its parts -/
theorem CallSpec.of {w : World} {f : Addr} {vs : List Value} {lv : Nat} {H : Option Value → Heap → Prop} {news : Led} {Post : Value → Led → Prop}
    (h : ∀ (p : Program) (loose : List Str) (mean : ExcName → Option Value) (mg mb : Str → Option Value) (hh : Option Value) (dp un : Nat) (gd : Option (List Code)) (env : Env) (outer : List Env) (A₀ : Around) (base h₀ : Heap) (L : Addr) (m : Str → Option Value) (hp : Heap) (gs : Array GenState) (dr : Drawn) (tk : Nat) (os : OsState) (Q E : Value → Shared → Prop),
      Below A₀ base outer h₀ → Fr h₀ L hp m → (hd.heap_39 w.params).In h₀ → News h₀ L hp news → Top p loose mean mg mb h₀ → env.frame = some L → env.scope.kind = .function → H hh h₀ → dp + 10 * lv < recursionLimit → un + 100 * lv < cLine →
      (∀ v h' tk' news', Fr h₀ L h' m → News h₀ L h' news' → Post v news' → Q v ⟨h', gs, dr, tk', os⟩) →
      wpAny (model prg w) { handled := hh, depth := dp, frames := some (env :: outer), guards := gd, units := un } (call (.ref f) vs) Q E ⟨hp, gs, dr, tk, os⟩) : CallSpec w f vs lv H news Post :=
  fun p loose mean mg mb hh dp un gd env outer A₀ base h₀ L m s Q E => by
    cases s
    exact h p loose mean mg mb hh dp un gd env outer A₀ base h₀ L m _ _ _ _ _ Q E

/-- what stands as handled: nothing, or an exception of the heap with no context -/
def HOk (hh : Option Value) (h : Heap) : Prop := hh = none ∨ ∃ e o vs, hh = some (.ref e) ∧ h.get? e = some o ∧ o.data = .fields vs ∧ vs[2]? = some .none
theorem HOk.keeps {hh : Option Value} {h h' : Heap} (x : HOk hh h) (k : ∀ b o, h.get? b = some o → h'.get? b = some o) : HOk hh h' :=
  x.imp id fun ⟨e, o, vs, a, b, c⟩ => ⟨e, o, vs, a, k _ _ b, c⟩
theorem allLt_ne {d : Nat} : ∀ {l : Led}, AllLt d l → ∀ p ∈ l, p.1 ≠ d
  | [], _ => fun _ h => nomatch h
  | q :: r, h => fun p hp => by
    rcases List.mem_cons.mp hp with rfl | hp
    · exact Nat.ne_of_lt h.1
    · exact allLt_ne h.2 p hp
def anyH : Option Value → Heap → Prop := fun _ _ => True
theorem UpdF.front {d : Addr} {o : Obj} {l : Led} {g : Obj → Led} (U : UpdF d o l g) :
    ∃ rest : Led, (∀ p ∈ rest, p.1 ≠ d) ∧ (∀ h₀ L h, News h₀ L h l → News h₀ L h ((d, o) :: rest)) ∧ ∀ h₀ L h o', News h₀ L h ((d, o') :: rest) → News h₀ L h (g o') := by
  obtain ⟨pre, post, rfl, hg, n1, n2⟩ := U.split
  refine ⟨pre ++ post, fun p hp => (List.mem_append.mp hp).elim (n1 p) (n2 p), fun h₀ L h N p hp => N p ?_, fun h₀ L h o' N p hp => N p ?_⟩
  · rcases List.mem_cons.mp hp with rfl | hp
    · simp
    · rcases List.mem_append.mp hp with hp | hp <;> simp [hp]
  · rw [hg] at hp
    rcases List.mem_append.mp hp with hp | hp
    · simp [hp]
    · rcases List.mem_cons.mp hp with rfl | hp <;> simp [*]
theorem allLt_mem {d : Nat} : ∀ {l : Led}, AllLt d l → ∀ p ∈ l, p.1 < d
  | [], _ => fun _ h => nomatch h
  | q :: r, h => fun p hp => by
    rcases List.mem_cons.mp hp with rfl | hp
    · exact h.1
    · exact allLt_mem h.2 p hp
def Above (F N : Led) : Prop := ∀ p ∈ F, ∀ q ∈ N, q.1 < p.1
theorem Above.nil {N : Led} : Above [] N := fun _ h => nomatch h
theorem Above.cons {N F : Led} {d : Addr} {o : Obj} (h : ∀ q ∈ N, q.1 < d) (a : Above F N) : Above ((d, o) :: F) N := fun p hp => by
  rcases List.mem_cons.mp hp with rfl | hp
  · exact h
  · exact a p hp
theorem News.sub {h₀ h : Heap} {L : Addr} {N N' : Led} (x : News h₀ L h N) (k : ∀ p ∈ N', p ∈ N) : News h₀ L h N' := fun p hp => x p (k p hp)
/-- a ledger that has only grown, by objects made later -/
def Grown (N N' : Led) : Prop := (∀ p ∈ N, p ∈ N') ∧ ∀ p ∈ N', p ∈ N ∨ ∀ q ∈ N, q.1 ≠ p.1
theorem Grown.refl {N : Led} : Grown N N := ⟨fun _ h => h, fun _ h => .inl h⟩
theorem Grown.trans {a b c : Led} (x : Grown a b) (y : Grown b c) : Grown a c := ⟨fun p h => y.1 p (x.1 p h), fun p h => (y.2 p h).elim (x.2 p) fun k => .inr fun q hq => k q (x.1 q hq)⟩
theorem Grown.cons {N N' : Led} {d : Addr} {o : Obj} (h : ∀ q ∈ N', q.1 ≠ d) (x : Grown N N') : Grown N ((d, o) :: N') := ⟨fun p k => .tail _ (x.1 p k), fun p k => by
  rcases List.mem_cons.mp k with rfl | k
  · exact .inr fun q hq => h q (x.1 q hq)
  · exact x.2 p k⟩
theorem Grown.drop3 {base nw all : Led} {I C D : Addr} {oI oC oD : Obj} (x : Grown base nw) (off : ∀ p ∈ nw, p.1 ≠ I ∧ p.1 ≠ C ∧ p.1 ≠ D) (y : Grown ((I, oI) :: (C, oC) :: (D, oD) :: nw) all) :
    Grown base (all.filter fun p => decide (p.1 ≠ I ∧ p.1 ≠ C ∧ p.1 ≠ D)) := by
  refine ⟨fun p h => List.mem_filter.mpr ⟨y.1 p (.tail _ (.tail _ (.tail _ (x.1 p h)))), by simpa using off p (x.1 p h)⟩, fun p h => ?_⟩
  obtain ⟨h1, h2⟩ := List.mem_filter.mp h
  have h2 : p.1 ≠ I ∧ p.1 ≠ C ∧ p.1 ≠ D := of_decide_eq_true h2
  rcases y.2 p h1 with k | k
  · rcases List.mem_cons.mp k with rfl | k
    · exact absurd rfl h2.1
    · rcases List.mem_cons.mp k with rfl | k
      · exact absurd rfl h2.2.1
      · rcases List.mem_cons.mp k with rfl | k
        · exact absurd rfl h2.2.2
        · exact x.2 p k
  · exact .inr fun q hq => k q (.tail _ (.tail _ (.tail _ (x.1 q hq))))
theorem mem_drop3 {nw all : Led} {I C D : Addr} {oI oC oD : Obj} {p : Addr × Obj} (k : ∀ q ∈ (I, oI) :: (C, oC) :: (D, oD) :: nw, q.1 ≠ p.1) (h : p ∈ all) : p ∈ all.filter fun p => decide (p.1 ≠ I ∧ p.1 ≠ C ∧ p.1 ≠ D) := by
  refine List.mem_filter.mpr ⟨h, decide_eq_true ⟨Ne.symm (k _ (.head _)), Ne.symm (k _ (.tail _ (.head _))), Ne.symm (k _ (.tail _ (.tail _ (.head _))))⟩⟩
theorem mem_drop3' {nw all : Led} {I C D : Addr} {oI oC oD : Obj} {p : Addr × Obj} (off : ∀ p ∈ nw, p.1 ≠ I ∧ p.1 ≠ C ∧ p.1 ≠ D) (y : Grown ((I, oI) :: (C, oC) :: (D, oD) :: nw) all) (h : p ∈ nw) : p ∈ all.filter fun p => decide (p.1 ≠ I ∧ p.1 ≠ C ∧ p.1 ≠ D) :=
  List.mem_filter.mpr ⟨y.1 p (.tail _ (.tail _ (.tail _ h))), decide_eq_true (off p h)⟩
theorem sub_drop3 {all : Led} {I C D : Addr} : ∀ p ∈ all.filter (fun p => decide (p.1 ≠ I ∧ p.1 ≠ C ∧ p.1 ≠ D)), p ∈ all := fun _ h => (List.mem_filter.mp h).1
theorem off_drop3 {all : Led} {I C D : Addr} : ∀ p ∈ all.filter (fun p => decide (p.1 ≠ I ∧ p.1 ≠ C ∧ p.1 ≠ D)), p.1 ≠ I ∧ p.1 ≠ C ∧ p.1 ≠ D := fun _ h => of_decide_eq_true (List.mem_filter.mp h).2
theorem lt_ne {d : Addr} {l : Led} (h : ∀ p ∈ l, p.1 < d) : ∀ p ∈ l, p.1 ≠ d := fun p hp => Nat.ne_of_lt (h p hp)
theorem off1_ne {d : Addr} : ∀ {l : Led}, LCg.Off1 d l → ∀ p ∈ l, p.1 ≠ d
  | [], _, _, h => nomatch h
  | q :: r, x, p, h => by
    rcases List.mem_cons.mp h with rfl | h
    · exact x.1
    · exact off1_ne x.2 p h
/-- one object of a ledger set ahead of the rest -/
theorem pull {h₀ h : Heap} {L d : Addr} {o : Obj} {nw : Led} (N : News h₀ L h nw) (hm : (d, o) ∈ nw) : ∃ rest, News h₀ L h ((d, o) :: rest) ∧ (∀ p ∈ rest, p.1 ≠ d) ∧ (∀ p ∈ rest, p ∈ nw) ∧ (∀ p ∈ nw, p.1 ≠ d → p ∈ rest) ∧ (∀ p ∈ nw, p.2.cls ≠ o.cls → p ∈ rest) := by
  refine ⟨nw.filter fun p => decide (p.1 ≠ d), fun p hp => ?_, fun p hp => of_decide_eq_true (List.mem_filter.mp hp).2, fun p hp => (List.mem_filter.mp hp).1, fun p hp k => List.mem_filter.mpr ⟨hp, decide_eq_true k⟩, fun p hp k => List.mem_filter.mpr ⟨hp, decide_eq_true fun e => ?_⟩⟩
  · rcases List.mem_cons.mp hp with rfl | hp
    · exact N _ hm
    · exact N p (List.mem_filter.mp hp).1
  · have h1 := (N p hp).1
    rw [e, (N _ hm).1] at h1
    exact k (congrArg Obj.cls (Option.some.inj h1)).symm
theorem CallSpec.use {w : World} {f : Addr} {vs : List Value} {lv : Nat} {H : Option Value → Heap → Prop} {news : Led} {Post : Value → Led → Prop} (S : CallSpec w f vs lv H news Post) {A A₀ : Around} {p : Program} {loose : List Str} {mean : ExcName → Option Value} {mg mb : Str → Option Value} {hh : Option Value} {dp un : Nat} {gd : Option (List Code)} {env : Env} {outer : List Env} {base h₀ : Heap} {L : Addr} {m : Str → Option Value} {s : Shared} {Q E : Value → Shared → Prop}
    (hA : A = { handled := hh, depth := dp, frames := some (env :: outer), guards := gd, units := un }) (B : Below A₀ base outer h₀) (F : Fr h₀ L s.heap m) (X : (hd.heap_39 w.params).In h₀) (N : News h₀ L s.heap news) (T : Top p loose mean mg mb h₀) (hf : env.frame = some L) (hk : env.scope.kind = .function) (hH : H hh h₀) (hdp : dp + 10 * lv < recursionLimit) (hun : un + 100 * lv < cLine)
    (h : ∀ v h' tk' news', Fr h₀ L h' m → News h₀ L h' news' → Post v news' → Q v { s with heap := h', toks := tk' }) : wpAny (model prg w) A (call (.ref f) vs) Q E s := by
  subst hA
  exact S p loose mean mg mb hh dp un gd env outer A₀ base h₀ L m s Q E B F X N T hf hk hH hdp hun h
theorem asIn {h₀ h : Heap} {L : Addr} {base all : Led} (_ : News h₀ L h all) (g : Grown base all) : Grown base all := g
theorem in3 {all nw : Led} {I C D : Addr} {oI oC oD : Obj} (g : Grown ((I, oI) :: (C, oC) :: (D, oD) :: nw) all) : ∀ p ∈ (I, oI) :: (C, oC) :: (D, oD) :: all.filter (fun p => decide (p.1 ≠ I ∧ p.1 ≠ C ∧ p.1 ≠ D)), p ∈ all := fun p hp => by
  rcases List.mem_cons.mp hp with rfl | hp
  · exact g.1 _ (.head _)
  · rcases List.mem_cons.mp hp with rfl | hp
    · exact g.1 _ (.tail _ (.head _))
    · rcases List.mem_cons.mp hp with rfl | hp
      · exact g.1 _ (.tail _ (.tail _ (.head _)))
      · exact sub_drop3 _ hp
theorem newNe {X Y : Led} {d : Addr} (g : Grown X Y) (h : ∀ q ∈ Y, q.1 ≠ d) : ∀ q ∈ X, q.1 ≠ d := fun q hq => h q (g.1 q hq)
theorem pullL {h₀ h : Heap} {L : Addr} {nw : Led} (N : News h₀ L h nw) (M : Led) (hm : ∀ p ∈ M, p ∈ nw) : ∃ rest, News h₀ L h (M ++ rest) ∧ (∀ p ∈ rest, p.1 ∉ M.map (·.1)) ∧ (∀ p ∈ rest, p ∈ nw) ∧ (∀ p ∈ nw, p.1 ∉ M.map (·.1) → p ∈ rest) := by
  refine ⟨nw.filter fun p => decide (p.1 ∉ M.map (·.1)), fun p hp => ?_, fun p hp => of_decide_eq_true (List.mem_filter.mp hp).2, fun p hp => (List.mem_filter.mp hp).1, fun p hp k => List.mem_filter.mpr ⟨hp, decide_eq_true k⟩⟩
  rcases List.mem_append.mp hp with hp | hp
  · exact N p (hm p hp)
  · exact N p (List.mem_filter.mp hp).1
/-- two entries of a ledger at one address are one -/
theorem News.uniq {h₀ h : Heap} {L : Addr} {nw : Led} (N : News h₀ L h nw) {p q : Addr × Obj} (hp : p ∈ nw) (hq : q ∈ nw) (e : p.1 = q.1) : p.2 = q.2 := by
  have h1 := (N p hp).1
  rw [e, (N q hq).1] at h1
  exact (Option.some.inj h1).symm
theorem strip {α : Type} {M : Model} {A : Around} {t : Sem α} {Q : α → Shared → Prop} {E : Value → Shared → Prop} {s : Shared} (h : wpAny M A t Q E s) : wpAny M A t Q E s := h
theorem stripQ {α : Type} {q : α → Shared → Prop} {v : α} {s : Shared} (h : q v s) : q v s := h
theorem neNat {a b : Addr} (h : a ≠ b) : @Ne Nat a b := h
theorem notmem_ne {d : Addr} {rest M : Led} (h : ∀ p ∈ rest, p.1 ∉ M.map (·.1)) (k : d ∈ M.map (·.1)) : ∀ p ∈ rest, p.1 ≠ d := fun p hp e => h p hp (e ▸ k)
theorem frOut {h₀ h : Heap} {L : Addr} {m : Str → Option Value} (F : Fr h₀ L h m) : ∃ M, M = m ∧ Fr h₀ L h M := ⟨m, rfl, F⟩
theorem mapSelf (x : Str) (m : Str → Option Value) : m = fun y => if y = x then m x else m y := by funext y; by_cases h : y = x <;> simp [h]
theorem mapOver (x : Str) (u v : Option Value) (m : Str → Option Value) : (fun y => if y = x then v else (fun y => if y = x then u else m y) y) = fun y => if y = x then v else m y := by funext y; by_cases h : y = x <;> simp [h]
/-- after a call or a comprehension: the own objects M ahead, the rest grown -/
theorem not_own {M : Led} {d : Addr} (h : ∀ q ∈ M, q.1 ≠ d) : d ∉ M.map (·.1) := fun k => by
  obtain ⟨q, hq, e⟩ := List.mem_map.mp k
  exact h q hq e
theorem lt_off2 {N : Led} {d : Nat} (h : ∀ p ∈ N, p.1 < d) : ∀ p ∈ N, p.1 ∉ ([d + 1 + 1, d + 1] : List Addr) := fun p hp q => by
  have h1 : @LT.lt Nat _ p.1 d := h p hp
  simp only [List.mem_cons, List.not_mem_nil, or_false] at q
  rcases q with q | q
  · have q' : @Eq Nat p.1 (d + 1 + 1) := q
    omega
  · have q' : @Eq Nat p.1 (d + 1) := q
    omega
theorem lt_off1 {N : Led} {d : Nat} (h : ∀ p ∈ N, p.1 < d) : ∀ p ∈ N, p.1 ∉ ([d + 1] : List Addr) := fun p hp q => by
  have h1 : @LT.lt Nat _ p.1 d := h p hp
  simp only [List.mem_cons, List.not_mem_nil, or_false] at q
  have q' : @Eq Nat p.1 (d + 1) := q
  omega
theorem ne_cons {d a : Addr} {o : Obj} {l : Led} (h : a ≠ d) (k : ∀ p ∈ l, p.1 ≠ d) : ∀ p ∈ (a, o) :: l, p.1 ≠ d := fun p hp => by
  rcases List.mem_cons.mp hp with rfl | hp
  · exact h
  · exact k p hp
theorem newNe' {M X Y : Led} {d : Addr} (g : Grown (M ++ X) Y) (h : ∀ q ∈ Y, q.1 ≠ d) : ∀ q ∈ M, q.1 ≠ d := fun q hq => h q (g.1 q (List.mem_append_left _ hq))
theorem gG {G : Prop} (h : ∀ P : Prop, (G → P) → P) : G := h G id
theorem sub_refl {l : Led} : ∀ p ∈ l, p ∈ l := fun _ h => h
theorem sub_skip {a : Addr × Obj} {l l' : Led} (k : ∀ p ∈ l, p ∈ l') : ∀ p ∈ l, p ∈ a :: l' := fun p hp => .tail _ (k p hp)
theorem sub_cons {a : Addr × Obj} {l l' : Led} (h : a ∈ l') (k : ∀ p ∈ l, p ∈ l') : ∀ p ∈ a :: l, p ∈ l' := fun p hp => by
  rcases List.mem_cons.mp hp with rfl | hp
  · exact h
  · exact k p hp
theorem sub_nil {l' : Led} : ∀ p ∈ ([] : Led), p ∈ l' := fun _ h => nomatch h
theorem CallSpec.weaken {w : World} {f : Addr} {vs : List Value} {lv : Nat} {H : Option Value → Heap → Prop} {news : Led} {P P' : Value → Led → Prop} (S : CallSpec w f vs lv H news P) (k : ∀ v n, P v n → P' v n) : CallSpec w f vs lv H news P' :=
  fun p loose mean mg mb hh dp un gd env outer A₀ base h₀ L m s Q E B F X N T hf hk hH hdp hun h => S p loose mean mg mb hh dp un gd env outer A₀ base h₀ L m s Q E B F X N T hf hk hH hdp hun fun v h' tk' n F' N' p => h v h' tk' n F' N' (k v n p)
inductive Regrown (h₀ h : Heap) (L : Addr) (M X nw X' : Led) : Prop where
  | mk (N : News h₀ L h (M ++ X')) (g : Grown X X') (off : ∀ p ∈ X', p.1 ∉ M.map (·.1)) (mem : ∀ p ∈ nw, p ∈ M ∨ p ∈ X') (new : ∀ p ∈ nw, p.1 ∉ M.map (·.1) → p ∈ X') : Regrown h₀ h L M X nw X'
theorem regrow {h₀ h : Heap} {L : Addr} {M X nw : Led} (N : News h₀ L h nw) (g : Grown (M ++ X) nw) (hoff : ∀ p ∈ X, p.1 ∉ M.map (·.1)) :
    ∃ X', Regrown h₀ h L M X nw X' := by
  obtain ⟨X', NR, r1, r2, r3⟩ := pullL N M fun p hp => g.1 p (List.mem_append_left _ hp)
  refine ⟨X', NR, ⟨fun p hp => r3 p (g.1 p (List.mem_append_right _ hp)) (hoff p hp), fun p hp => ?_⟩, r1, fun p hp => ?_, r3⟩
  · rcases g.2 p (r2 p hp) with k | k
    · rcases List.mem_append.mp k with k | k
      · exact absurd (List.mem_map_of_mem k) (r1 p hp)
      · exact .inl k
    · exact .inr fun q hq => k q (List.mem_append_right _ hq)
  · by_cases hm : p.1 ∈ M.map (·.1)
    · obtain ⟨q, hq, e⟩ := List.mem_map.mp hm
      have := News.uniq N hp (g.1 q (List.mem_append_left _ hq)) e.symm
      exact .inl (by rw [show p = q from Prod.ext e.symm this]; exact hq)
    · exact .inr (r3 p hp hm)

/-- what stands behind a statement: the rest of its block -/
def Cont (M : Model) (A : Around) (rest : List Stmt) (env : Env) (Q : Flow → Shared → Prop) (E : Value → Shared → Prop) (f : Flow) (s : Shared) : Prop := match f with | .next => wpAny M A (execs rest env) Q E s | f => Q f s
section
variable {M : Model} {A : Around} {st : Stmt} {rest : List Stmt} {env : Env} {Q : Flow → Shared → Prop} {E : Value → Shared → Prop} {h : Heap} {gs : Array GenState} {dr : Drawn} {n : Nat} {os : OsState}
theorem execsMoreL {s : Shared} (k : let q := Cont M A rest env Q E; wpAny M A (exec st env) q E s) : wpAny M A (execs (st :: rest) env) Q E s :=
  wpAny_execs_cons (wpAny_mono k (fun f s' x => by cases f <;> exact x) fun _ _ x => x)
theorem execsOneL {s : Shared} (k : wpAny M A (exec st env) Q E s) : wpAny M A (execs [st] env) Q E s :=
  wpAny_execs_cons (wpAny_mono k (fun f s' x => by cases f <;> first | exact x | exact wpAny_execs_nil x) fun _ _ x => x)
theorem execsMoreG (k : let q := Cont M A rest env Q E; ∀ n, wpAny M A (exec st env) q E ⟨h, gs, dr, n, os⟩) : wpAny M A (execs (st :: rest) env) Q E ⟨h, gs, dr, n, os⟩ :=
  wpAny_execs_cons (wpAny_mono (k n) (fun f s' x => by cases f <;> exact x) fun _ _ x => x)
theorem execsOneG (k : ∀ n, wpAny M A (exec st env) Q E ⟨h, gs, dr, n, os⟩) : wpAny M A (execs [st] env) Q E ⟨h, gs, dr, n, os⟩ :=
  wpAny_execs_cons (wpAny_mono (k n) (fun f s' x => by cases f <;> first | exact x | exact wpAny_execs_nil x) fun _ _ x => x)
theorem Cont.go {s : Shared} (k : wpAny M A (execs rest env) Q E s) : Cont M A rest env Q E .next s := k
theorem Cont.ret {s : Shared} {v : Value} (k : Q (.ret v) s) : Cont M A rest env Q E (.ret v) s := k
end
theorem letX {M : Model} {A : Around} {b : List Stmt} {e : Env} {Q : Flow → Shared → Prop} {E : Value → Shared → Prop} {s : Shared}
    (h : let M' := M; let e' := e; let A' := A; wpAny M' A' (execs b e') Q E s) : wpAny M A (execs b e) Q E s := h

/-- a frame's names said once: a let-variable -/
theorem letF {g h : Heap} {L : Addr} {m : Str → Option Value} {G : Prop} (F : Fr g L h m) (k : let z := m; Fr g L h z → G) : G := k F
theorem storeLetL {M : Model} {A : Around} {E : Value → Shared → Prop} {s : Shared} {h₀ : Heap} {L a : Addr} {m : Str → Option Value} {cn : Str} {cs : Scope} {ccd : Value} {cl : List (Str × Addr)}
    {x : Str} {v : Value} {Q : Unit → Shared → Prop} {news : Led} (F : Fr h₀ L s.heap m) (N : News h₀ L s.heap news)
    (h : ∀ h', let z : Str → Option Value := fun y => if y = x then some v else m y; Fr h₀ L h' z → News h₀ L h' news → Q () { s with heap := h', toks := s.toks + 1 })
    (hk : cs.kind = .function := by rfl) (hx : (envX cn cs L a ccd cl).kindOf x = some .local := by rfl) : wpAny M A (storeName (envX cn cs L a ccd cl) x v) Q E s :=
  storeX_L F N h hk hx
end
section
abbrev listO (vs : List Value) (n : Nat) : Obj := seqO "list" vs n
abbrev tupO (vs : List Value) : Obj := seqO "tuple" vs 0
abbrev Row := Str × List Str
def needs (r : Row) : List Str := if r.1 = "Prelude" ∨ r.1 = "Prim" ∨ ("Prelude" : Str) ∈ r.2 then r.2 else ("Prelude" : Str) :: r.2
/-- the ledger bears at v a list of the texts xs -/
inductive TextsIn (K : Led) (v : Value) (xs : List Str) : Prop where
  | mk (l : Addr) (vs : List Value) (n : Nat) (e : v = .ref l) (h : (l, listO vs n) ∈ K) (hs : StrsAre vs xs) : TextsIn K v xs
theorem TextsIn.mono {K K' : Led} {v : Value} {xs : List Str} (h : TextsIn K v xs) (k : ∀ p ∈ K, p ∈ K') : TextsIn K' v xs := let ⟨l, vs, n, a, b, c⟩ := h; ⟨l, vs, n, a, k _ b, c⟩
/-- a row of the law's: a name and what it needs -/
inductive RowIn (K : Led) (v : Value) (r : Row) : Prop where
  | mk (a : Addr) (t : Tok) (l : Addr) (vs : List Value) (n : Nat) (e : v = .ref a) (h : (a, tupO [.str r.1 t, .ref l]) ∈ K) (hl : (l, listO vs n) ∈ K) (hs : StrsAre vs r.2) : RowIn K v r
theorem RowIn.mono {K K' : Led} {v : Value} {r : Row} (h : RowIn K v r) (k : ∀ p ∈ K, p ∈ K') : RowIn K' v r := let ⟨a, t, l, vs, n, e, b, c, d⟩ := h; ⟨a, t, l, vs, n, e, k _ b, k _ c, d⟩
/-- values and what they stand for, one by one -/
def Each {α : Type} (R : Value → α → Prop) (vs : List Value) (xs : List α) : Prop := vs.length = xs.length ∧ ∀ (i : Nat) v, vs[i]? = some v → ∃ x, xs[i]? = some x ∧ R v x
theorem Each.nil {α : Type} {R : Value → α → Prop} : Each R [] [] := ⟨rfl, fun i v h => by simp at h⟩
theorem Each.mono {α : Type} {R R' : Value → α → Prop} {vs : List Value} {xs : List α} (h : Each R vs xs) (k : ∀ v x, R v x → R' v x) : Each R' vs xs := ⟨h.1, fun i v e => let ⟨x, a, b⟩ := h.2 i v e; ⟨x, a, k _ _ b⟩⟩
theorem Each.snoc {α : Type} {R : Value → α → Prop} {vs : List Value} {xs : List α} {v : Value} {x : α} (h : Each R vs xs) (hv : R v x) : Each R (vs ++ [v]) (xs ++ [x]) := by
  refine ⟨by simp [h.1], fun i u e => ?_⟩
  rcases Nat.lt_or_ge i vs.length with hi | hi
  · rw [List.getElem?_append_left hi] at e
    obtain ⟨y, a, b⟩ := h.2 i u e
    exact ⟨y, by rw [List.getElem?_append_left (by rw [← h.1]; exact hi)]; exact a, b⟩
  · rw [List.getElem?_append_right hi] at e
    have h0 : i - vs.length = 0 := by
      rcases Nat.eq_zero_or_pos (i - vs.length) with z | z
      · exact z
      · rw [List.getElem?_eq_none (by simp; omega)] at e; cases e
    rw [h0] at e
    have : v = u := by simpa using e
    subst this
    refine ⟨x, ?_, hv⟩
    rw [List.getElem?_append_right (by rw [← h.1]; exact hi), ← h.1, h0]; rfl
theorem Each.strs {vs : List Value} {xs : List Str} : Each (fun v x => ∃ t, v = Value.str x t) vs xs → StrsAre vs xs := by
  induction vs generalizing xs with
  | nil => intro h; cases xs with
    | nil => exact .nil
    | cons => cases h.1
  | cons v r ih => intro h; cases xs with
    | nil => cases h.1
    | cons x q =>
      obtain ⟨y, a, t, e⟩ := h.2 0 v rfl
      cases a; subst e
      exact .cons _ _ (ih ⟨by simpa using h.1, fun i u e => h.2 (i + 1) u e⟩)
theorem strs_each {vs : List Value} {xs : List Str} (h : StrsAre vs xs) : Each (fun v x => ∃ t, v = Value.str x t) vs xs := by
  induction h with
  | nil => exact .nil
  | cons y t _ ih => exact ⟨by simp [ih.1], fun i v e => by
      cases i with
      | zero => simp at e; exact ⟨y, rfl, t, e.symm⟩
      | succ i => exact ih.2 i v (by simpa using e)⟩
theorem take_snoc {α : Type} {xs : List α} {i : Nat} {x : α} (h : xs[i]? = some x) : xs.take (i + 1) = xs.take i ++ [x] := by rw [List.take_add_one, h]; rfl
theorem Each.step {α : Type} {R : Value → α → Prop} {vs : List Value} {xs : List α} {i : Nat} {v : Value} {x : α} (h : Each R vs (xs.take i)) (hx : xs[i]? = some x) (hv : R v x) : Each R (vs ++ [v]) (xs.take (i + 1)) := by
  rw [take_snoc hx]; exact h.snoc hv
theorem Each.up {vs : List Value} {rows : List Row} {K K' : Led} (h : Each (RowIn K) vs rows) (k : ∀ p ∈ K, p ∈ K') : Each (RowIn K') vs rows := h.mono fun _ _ r => r.mono k
/-- the sequences of a ledger stand in another -/
def SeqSub (K K' : Led) : Prop := ∀ p ∈ K, (∃ xs n, p.2.data = .seq xs n) → p ∈ K'
theorem SeqSub.of {K K' : Led} (h : ∀ p ∈ K, p ∈ K') : SeqSub K K' := fun p hp _ => h p hp
theorem SeqSub.trans {a b c : Led} (x : SeqSub a b) (y : SeqSub b c) : SeqSub a c := fun p hp k => y p (x p hp k) k
theorem TextsIn.monoS {K K' : Led} {v : Value} {xs : List Str} (h : TextsIn K v xs) (k : SeqSub K K') : TextsIn K' v xs := let ⟨l, vs, n, a, b, c⟩ := h; ⟨l, vs, n, a, k _ b ⟨_, _, rfl⟩, c⟩
theorem RowIn.monoS {K K' : Led} {v : Value} {r : Row} (h : RowIn K v r) (k : SeqSub K K') : RowIn K' v r := let ⟨a, t, l, vs, n, e, b, c, d⟩ := h; ⟨a, t, l, vs, n, e, k _ b ⟨_, _, rfl⟩, k _ c ⟨_, _, rfl⟩, d⟩
theorem Each.upS {vs : List Value} {rows : List Row} {K K' : Led} (h : Each (RowIn K) vs rows) (k : SeqSub K K') : Each (RowIn K') vs rows := h.mono fun _ _ r => r.monoS k
theorem seq_off {h₀ h : Heap} {L : Addr} {nw : Led} (N : News h₀ L h nw) {p q : Addr × Obj} (hp : p ∈ nw) (hq : q ∈ nw) (hd : ∃ xs n, p.2.data = .seq xs n) (hn : ∀ xs n, q.2.data ≠ .seq xs n) : p.1 ≠ q.1 := fun e => by
  obtain ⟨xs, n, hd⟩ := hd
  rw [News.uniq N hp hq e] at hd
  exact hn xs n hd
theorem seqSub_own {M X' nw : Led} (h : ∀ p ∈ nw, p ∈ M ∨ p ∈ X') (hM : ∀ p ∈ M, ∀ xs n, p.2.data ≠ .seq xs n) : SeqSub nw X' := fun p hp ⟨xs, n, e⟩ => (h p hp).elim (fun k => absurd e (hM p k xs n)) id
theorem filter_snoc {α : Type} {xs : List α} {i : Nat} {x : α} (q : α → Bool) (h : xs[i]? = some x) : (xs.take (i + 1)).filter q = (xs.take i).filter q ++ if q x = true then [x] else [] := by
  rw [take_snoc h, List.filter_append]; simp [List.filter_cons]
theorem Each.stepT {α : Type} {R : Value → α → Prop} {vs : List Value} {xs : List α} {q : α → Bool} {i : Nat} {v : Value} {x : α} (h : Each R vs ((xs.take i).filter q)) (hx : xs[i]? = some x) (hq : q x = true) (hv : R v x) : Each R (vs ++ [v]) ((xs.take (i + 1)).filter q) := by
  rw [filter_snoc q hx, if_pos hq]; exact h.snoc hv
theorem Each.stepF {α : Type} {R : Value → α → Prop} {vs : List Value} {xs : List α} {q : α → Bool} {i : Nat} {x : α} (h : Each R vs ((xs.take i).filter q)) (hx : xs[i]? = some x) (hq : ¬ q x = true) : Each R vs ((xs.take (i + 1)).filter q) := by
  rw [filter_snoc q hx, if_neg hq, List.append_nil]; exact h
theorem strsCat {vs ws : List Value} {xs ys : List Str} (h : StrsAre vs xs) (g : StrsAre ws ys) : StrsAre (vs ++ ws) (xs ++ ys) := by induction h with
  | nil => exact g
  | cons y t _ ih => exact .cons y t ih
/-- a pair of a text and a value that stays -/
inductive FlagIn (K : Led) (b : Value) (v : Value) (x : Str) : Prop where
  | mk (a : Addr) (t : Tok) (e : v = .ref a) (h : (a, tupO [.str x t, b]) ∈ K) : FlagIn K b v x
theorem FlagIn.mono {K K' : Led} {b v : Value} {x : Str} (h : FlagIn K b v x) (k : ∀ p ∈ K, p ∈ K') : FlagIn K' b v x := let ⟨a, t, e, m⟩ := h; ⟨a, t, e, k _ m⟩
end
section
section
variable {α : Type} {pg : Program} {w : World} {A : Around} {E : Value → Shared → Prop} {s : Shared}
theorem entry_unchain : entryFor table "proto.unchain" = some Builtin.«proto.unchain» := entryFor_of_tree (by kernel_rfl)
/-- a fresh exception is raised under what stands as handled -/
theorem raiseNew_held {a : Addr} {o : Obj} {vs : Array Value} {Q : α → Shared → Prop} (H : HOk A.handled s.heap) (hn : ∀ e, A.handled = some (.ref e) → e ≠ a) (ho : s.heap.get? a = some o) (hd : o.data = .fields vs) (hi : 2 < vs.size)
    (hE : ∀ h', Heap.SameBut a s.heap h' → (∃ o', h'.get? a = some o' ∧ o'.cls = o.cls) → E (.ref a) { s with heap := h' }) : wpAny (model pg w) A (raiseNew (.ref a) : Sem α) Q E s := by
  unfold raiseNew
  refine wpAny_bind (wpAny_handled ?_)
  rcases H with H | ⟨e, oe, ws, H, he, hde, h2⟩
  · rw [H]
    exact wpAny_bind (wpAny_pure (wpAny_throw (hE _ (Heap.SameBut.refl _ _) ⟨o, ho, rfl⟩)))
  · have hne := hn e H
    rw [H]
    dsimp only
    rw [if_pos (by simpa using hne)]
    refine wpAny_bind (wpAny_holding (wpAny_runValue (codeAny_builtinAt entry_unchain (wpAt_of_wpAny ?_))))
    show wpAny _ _ (field (.ref e) 2 >>= _) _ _ _
    refine wpAny_bind (wpAny_field he hde h2 ?_)
    show wpAny _ _ (ret Value.none >>= _) _ _ _
    refine wpAny_bind (wpAny_pure (wpAny_pure ?_))
    show wpAny _ _ (setField (.ref a) 2 (.ref e) >>= _) _ _ _
    refine wpAny_bind (wpAny_setField ho hd hi (wpAny_throw (hE _ (Heap.SameBut.update ..) ?_)))
    exact ⟨_, Heap.get?_update_self _ ho (Obj.isFreed_of_fields (Obj.data_mapFields hd _)), Obj.cls_mapFields ..⟩
/-- the end of a list's iteration, under what stands as handled -/
theorem pyNext_list_endH {it l : Addr} {i : Nat} {items : Array Value} {Q : Option Value → Shared → Prop} (hh : HOk A.handled s.heap) (hne : ∀ e, A.handled = some (.ref e) → e ≠ it)
    (hit : s.heap.IsListIter it l i) (hl : s.heap.IsList l items) (hx : items[i]? = none)
    (hQ : ∀ h', Heap.ExtBut it s.heap h' → Q none { s with heap := h' }) : wpAny (model pg w) A (pyNext (.ref it)) Q E s := by
  obtain ⟨o, ho, hc, hd⟩ := id hit
  obtain ⟨ol, hol, _, nl, hdl⟩ := hl
  unfold pyNext
  refine wpAny_bind (wpAny_attempt (wpAny_callSpecial?_slot (name := Str.ofString "__next__") hit.typeIs slot_listiter_next
    (wpAny_call_entry slot_listiter_next hit.typeIs entry_listiter_next ?_ (args_listiter_next _))))
  show wpAny _ _ (field (.ref it) 0 >>= _) _ _ s
  refine wpAny_bind (wpAny_field ho hd (x := .ref l) rfl ?_)
  show wpAny _ _ (if (Value.ref l == Value.none) = true then _ else _) _ _ s
  rw [if_neg (show ¬ ((Value.ref l == Value.none) = true) from Bool.false_ne_true)]
  show wpAny _ _ (field (.ref it) 1 >>= _) _ _ s
  refine wpAny_bind (wpAny_field ho hd (x := .int i 0) rfl ?_)
  show wpAny _ _ (seqItems? (.ref l) >>= _) _ _ s
  refine wpAny_bind (wpAny_seqItems hol hdl ?_)
  simp only [Int.toNat_natCast, hx]
  refine wpAny_bind (wpAny_rule (wpAny_bind (wpAny_setField ho hd (by simp) ?_)))
  show wpAny _ _ (newExc (.type "StopIteration") [] >>= _) _ _ _
  refine wpAny_bind ?_
  simp only [newExc, newTuple]
  refine wpAny_bind (wpAny_newObj_type ?_ (by size_fits))
  refine wpAny_bind (m := firstArgMember _ _) (wpAny_of_eq (a := Value.none) (by first | rfl | (simp only [firstArgMember]; rfl)) ?_)
  refine wpAny_newObj_type ?_ (by size_fits)
  refine raiseNew_held (A := A.in1) ?_ ?_ (Heap.get?_push_size _ rfl) rfl (by simp; omega) fun h' hs' ho' => ?_
  · refine hh.imp id fun ⟨e, oe, vs, a, b, c⟩ => ⟨e, oe, vs, a, Heap.get?_push_of_some _ (Heap.get?_push_of_some _ ?_), c⟩
    exact (Heap.get?_update_ne _ _ _ _ (hne e a)).trans b
  · intro e he q
    rcases hh with hh | ⟨e', oe, vs, a, b, c⟩
    · rw [show A.handled = some (.ref e) from he] at hh; cases hh
    · rw [show A.handled = some (.ref e) from he] at a; cases a
      have := Heap.lt_size b
      simp only [Heap.size_push] at q
      have e2 := (Heap.SameBut.update s.heap it (Obj.mapFields fun x => x.setIfInBounds 0 Value.none)).1
      rw [e2] at q
      exact absurd this (by rw [q]; exact Nat.not_lt.mpr (Nat.le_succ _))
  · obtain ⟨o', ho', hc'⟩ := ho'
    refine wpAny_bind (wpAny_isInstance (T := "StopIteration") (b := true) ⟨_, ho', hc'⟩ isSubtype_stop ?_)
    refine wpAny_pure (hQ _ fun b ob hb e => ?_)
    have e1 := Heap.SameBut.extBut (Heap.SameBut.update s.heap it (Obj.mapFields fun x => x.setIfInBounds 0 Value.none)) b ob hb e
    have hlt := Heap.lt_size e1
    refine (hs'.2 b ?_).trans (Heap.get?_push_of_some _ (Heap.get?_push_of_some _ e1))
    simp only [Heap.size_push]
    exact Nat.ne_of_lt (Nat.lt_succ_of_lt hlt)
end
end
section
def tget (t : List Row) (k : Str) : List Str := ((t.find? fun e => decide (e.1 = k)).map (·.2)).getD []
def tput (t : List Row) (k : Str) (x : List Str) : List Row := t.map fun e => if e.1 = k then (e.1, x) else e
def stepIn (mid name : Str) (t : List Row) : List Row := if mid ∈ tget t name then tput t name (tget t name ++ (tget t mid).filter fun o => decide (o ∉ tget t name)) else t
def stepMid (ks : List Str) (t : List Row) (mid : Str) : List Row := ks.foldl (fun t name => stepIn mid name t) t
def start (rows : List Row) : List Row := rows.map fun r => (r.1, needs r)
def reached (rows : List Row) : List Row := (rows.map (·.1)).foldl (stepMid (rows.map (·.1))) (start rows)
/-- a dict's items stand for the table -/
def TblIn (K : Led) (kvs : List (Str × Value)) (t : List Row) : Prop := kvs.map (·.1) = t.map (·.1) ∧ ∀ (i : Nat) p, kvs[i]? = some p → ∃ e, t[i]? = some e ∧ TextsIn K p.2 e.2
theorem needs_len (r : Row) : (needs r).length ≤ r.2.length + 1 := by unfold needs; split <;> simp
theorem TblIn.monoS {K K' : Led} {kvs : List (Str × Value)} {t : List Row} (h : TblIn K kvs t) (k : SeqSub K K') : TblIn K' kvs t := ⟨h.1, fun i p e => let ⟨x, a, b⟩ := h.2 i p e; ⟨x, a, b.monoS k⟩⟩
theorem keys_put (t : List Row) (k : Str) (x : List Str) : (tput t k x).map (·.1) = t.map (·.1) := by
  unfold tput; rw [List.map_map]; apply List.map_congr_left; intro e _; simp only [Function.comp]; split <;> rfl
theorem keys_stepIn (mid name : Str) (t : List Row) : (stepIn mid name t).map (·.1) = t.map (·.1) := by
  unfold stepIn; split; exact keys_put ..; rfl
theorem keys_foldIn (mid : Str) : ∀ (ks : List Str) (t : List Row), (ks.foldl (fun t name => stepIn mid name t) t).map (·.1) = t.map (·.1)
  | [], _ => rfl
  | k :: r, t => by rw [List.foldl_cons, keys_foldIn mid r, keys_stepIn]
theorem keys_foldMid (ks : List Str) : ∀ (ms : List Str) (t : List Row), (ms.foldl (stepMid ks) t).map (·.1) = t.map (·.1)
  | [], _ => rfl
  | k :: r, t => by rw [List.foldl_cons, keys_foldMid ks r, stepMid, keys_foldIn]
theorem keys_start (rows : List Row) : (start rows).map (·.1) = rows.map (·.1) := by rw [start, List.map_map]; rfl
theorem tget_mem {t : List Row} {k : Str} (h : k ∈ t.map (·.1)) : (k, tget t k) ∈ t := by
  obtain ⟨e, he, rfl⟩ := List.mem_map.mp h
  unfold tget
  cases hf : t.find? (fun x => decide (x.1 = e.1)) with
  | none => exact absurd (List.find?_eq_none.mp hf e he) (by simp)
  | some x =>
    have h1 := List.find?_some hf
    have h2 := List.mem_of_find?_eq_some hf
    simp only [decide_eq_true_eq] at h1
    simp only [Option.map_some, Option.getD_some]
    rw [← h1]; exact h2
theorem tget_none {t : List Row} {k : Str} (h : k ∉ t.map (·.1)) : tget t k = [] := by
  unfold tget
  cases hf : t.find? (fun x => decide (x.1 = k)) with
  | none => rfl
  | some x =>
    have h1 := List.find?_some hf
    have h2 := List.mem_of_find?_eq_some hf
    simp only [decide_eq_true_eq] at h1
    exact absurd (List.mem_map.mpr ⟨x, h2, h1⟩) h
theorem mem_tput {t : List Row} {k : Str} {x : List Str} {e : Row} (h : e ∈ tput t k x) : (e.1 = k ∧ e.2 = x) ∨ (e.1 ≠ k ∧ e ∈ t) := by
  obtain ⟨f, hf, rfl⟩ := List.mem_map.mp h
  by_cases q : f.1 = k
  · simp [q]
  · right; simp [q]; exact hf
theorem tget_len {t : List Row} {B : Nat} (h : ∀ e ∈ t, e.2.length ≤ B) (k : Str) : (tget t k).length ≤ B := by
  by_cases hk : k ∈ t.map (·.1)
  · exact h _ (tget_mem hk)
  · rw [tget_none hk]; exact Nat.zero_le _
theorem tget_put {t : List Row} {k k' : Str} {x : List Str} : tget (tput t k x) k' = if k' = k ∧ k ∈ t.map (·.1) then x else tget t k' := by
  induction t with
  | nil => simp [tget, tput]
  | cons e r ih =>
    unfold tget tput at *
    simp only [List.map_cons, List.find?_cons]
    by_cases h1 : e.1 = k
    · by_cases h2 : k' = k
      · subst h2; simp [h1]
      · have h3 : ¬ k = k' := fun q => h2 q.symm
        simp only [h1, if_true, h3, decide_false, Bool.false_eq_true, if_false]
        rw [ih]; simp [h2]
    · by_cases h2 : e.1 = k'
      · have h3 : ¬ k' = k := fun q => h1 (h2.trans q)
        simp [h1, h2, h3]
      · simp only [h1, if_false, h2, decide_false, Bool.false_eq_true]
        rw [ih]
        have : (k ∈ e.1 :: r.map (·.1)) ↔ k ∈ r.map (·.1) := ⟨fun q => (List.mem_cons.mp q).elim (fun z => absurd z.symm h1) id, fun q => .tail _ q⟩
        simp only [this]
/-- the bound on the lists within one round -/
structure InB (mid : Str) (B : Nat) (S : List Str) (t : List Row) : Prop where
  all : ∀ e ∈ t, e.2.length ≤ 2 * B
  rest : ∀ e ∈ t, e.1 ∉ S → e.2.length ≤ B
  mid : (tget t mid).length ≤ B
theorem InB.step {mid name : Str} {B : Nat} {S : List Str} {t : List Row} (h : InB mid B S t) (hn : name ∉ S) : InB mid B (S ++ [name]) (stepIn mid name t) := by
  unfold stepIn
  split
  · have h1 : (tget t name).length ≤ B := by
      by_cases hk : name ∈ t.map (·.1)
      · exact h.rest _ (tget_mem hk) hn
      · rw [tget_none hk]; exact Nat.zero_le _
    have h2 : ((tget t mid).filter fun o => decide (o ∉ tget t name)).length ≤ B := Nat.le_trans (List.length_filter_le _ _) h.mid
    refine ⟨fun e he => ?_, fun e he hs => ?_, ?_⟩
    · rcases mem_tput he with ⟨_, q⟩ | ⟨_, q⟩
      · rw [q, List.length_append]; omega
      · exact h.all e q
    · rcases mem_tput he with ⟨q, _⟩ | ⟨_, q⟩
      · exact absurd (by simp [q]) hs
      · exact h.rest e q fun k => hs (by simp [k])
    · rw [tget_put]
      split
      · rename_i q
        obtain ⟨q, _⟩ := q
        subst q
        have : ((tget t mid).filter fun o => decide (o ∉ tget t mid)) = [] := List.filter_eq_nil_iff.mpr fun a ha => by simpa using ha
        rw [this, List.append_nil]; exact h1
      · exact h.mid
  · exact ⟨h.all, fun e he hs => h.rest e he fun k => hs (by simp [k]), h.mid⟩
theorem InB.fold {mid : Str} {B : Nat} : ∀ (ks S : List Str) (t : List Row), (S ++ ks).Nodup → InB mid B S t → InB mid B (S ++ ks) (ks.foldl (fun t name => stepIn mid name t) t)
  | [], S, t, _, h => by simpa using h
  | k :: r, S, t, hn, h => by
    rw [List.foldl_cons]
    have hk : k ∉ S := fun q => by
      rw [List.nodup_append] at hn
      exact hn.2.2 k q k (by simp) rfl
    have := InB.fold r (S ++ [k]) (stepIn mid k t) (by simpa using hn) (h.step hk)
    simpa using this
theorem InB.init {mid : Str} {B : Nat} {t : List Row} (h : ∀ e ∈ t, e.2.length ≤ B) : InB mid B [] t := ⟨fun e he => Nat.le_trans (h e he) (by omega), fun e he _ => h e he, tget_len h mid⟩
theorem lenMid {ks : List Str} (hn : ks.Nodup) : ∀ (ms : List Str) (t : List Row) (B : Nat), (∀ e ∈ t, e.2.length ≤ B) → ∀ e ∈ ms.foldl (stepMid ks) t, e.2.length ≤ B * 2 ^ ms.length
  | [], t, B, h, e, he => by simpa using h e he
  | k :: r, t, B, h, e, he => by
    rw [List.foldl_cons] at he
    have h1 : ∀ e ∈ stepMid ks t k, e.2.length ≤ 2 * B := (InB.fold ks [] t (by simpa using hn) (InB.init h)).all
    have := lenMid hn r _ (2 * B) h1 e he
    rw [List.length_cons, Nat.pow_succ]
    have e1 : 2 * B * 2 ^ r.length = B * (2 ^ r.length * 2) := by rw [Nat.mul_comm 2 B, Nat.mul_assoc, Nat.mul_comm 2]
    omega
theorem lenBound {rows : List Row} (hlen : rows.length ≤ 7) (hnd : (rows.map (·.1)).Nodup) (hsh : ∀ r ∈ rows, r.2.length ≤ 7) (i j : Nat) (mid : Str) :
    ∀ e ∈ ((rows.map (·.1)).take j).foldl (fun t name => stepIn mid name t) (((rows.map (·.1)).take i).foldl (stepMid (rows.map (·.1))) (start rows)), e.2.length ≤ 2048 := by
  have h0 : ∀ e ∈ start rows, e.2.length ≤ 8 := fun e he => by
    obtain ⟨r, hr, rfl⟩ := List.mem_map.mp he
    have := needs_len r; have := hsh r hr
    show (needs r).length ≤ 8
    omega
  have h1 := lenMid hnd ((rows.map (·.1)).take i) (start rows) 8 h0
  have h2 : ((rows.map (·.1)).take i).length ≤ 7 := by rw [List.length_take, List.length_map]; omega
  have h3 : ∀ e ∈ (((rows.map (·.1)).take i).foldl (stepMid (rows.map (·.1))) (start rows)), e.2.length ≤ 1024 := fun e he => Nat.le_trans (h1 e he) (by
    have : 2 ^ ((rows.map (·.1)).take i).length ≤ 2 ^ 7 := Nat.pow_le_pow_right (by omega) h2
    omega)
  exact (InB.fold ((rows.map (·.1)).take j) [] _ (by simpa using hnd.sublist (List.take_sublist ..)) (InB.init h3)).all
theorem find_val {kvs : List (Str × Value)} : ∀ {t : List Row}, kvs.map (·.1) = t.map (·.1) → ∀ k ∈ t.map (·.1), ∃ (i : Nat) (v : Value) (e : Row), kvs[i]? = some (k, v) ∧ t[i]? = some e ∧ valueAt kvs k = some v ∧ tget t k = e.2 := by
  induction kvs with
  | nil => intro t h k hk; cases t with
    | nil => simp at hk
    | cons => cases h
  | cons p r ih => intro t h k hk; cases t with
    | nil => cases h
    | cons e q =>
      simp only [List.map_cons, List.cons.injEq] at h
      by_cases hp : p.1 = k
      · refine ⟨0, p.2, e, by simp [← hp], rfl, by simp [valueAt, hp], ?_⟩
        simp [tget, ← h.1, hp]
      · have hk' : k ∈ q.map (·.1) := by
          rcases List.mem_cons.mp hk with z | z
          · exact absurd (h.1.trans z.symm) hp
          · exact z
        obtain ⟨i, v, e', a, b, c, d⟩ := ih h.2 k hk'
        refine ⟨i + 1, v, e', a, b, ?_, ?_⟩
        · unfold valueAt at c ⊢; rw [List.find?_cons, show decide (p.1 = k) = false by simpa using hp]; exact c
        · unfold tget at d ⊢; rw [List.find?_cons, show decide (e.1 = k) = false by rw [← h.1]; simpa using hp]; exact d
theorem TblIn.at {K : Led} {kvs : List (Str × Value)} {t : List Row} (h : TblIn K kvs t) {k : Str} (hk : k ∈ t.map (·.1)) : ∃ v, valueAt kvs k = some v ∧ TextsIn K v (tget t k) := by
  obtain ⟨i, v, e, a, b, c, d⟩ := find_val h.1 k hk
  obtain ⟨e', h1, h2⟩ := h.2 i _ a
  rw [b] at h1; cases h1
  exact ⟨v, c, d ▸ h2⟩
theorem TblIn.put {K : Led} {kvs : List (Str × Value)} {t : List Row} (h : TblIn K kvs t) {k : Str} (hk : k ∈ t.map (·.1)) {v : Value} {x : List Str} (hv : TextsIn K v x) : TblIn K (stored kvs k v) (tput t k x) := by
  have hany : (kvs.any fun kv => decide (kv.1 = k)) = true := by
    rw [← h.1] at hk
    obtain ⟨p, h1, h2⟩ := List.mem_map.mp hk
    exact List.any_eq_true.mpr ⟨p, h1, by simpa using h2⟩
  rw [stored, if_pos hany]
  refine ⟨?_, fun i p hp => ?_⟩
  · rw [keys_put, ← h.1, List.map_map]; apply List.map_congr_left; intro e _; simp only [Function.comp]; split <;> rfl
  · rw [List.getElem?_map] at hp
    cases hq : kvs[i]? with
    | none => rw [hq] at hp; cases hp
    | some q =>
      rw [hq] at hp
      simp only [Option.map_some, Option.some.injEq] at hp
      obtain ⟨e, he, ht⟩ := h.2 i q hq
      have hkey : q.1 = e.1 := by
        have := congrArg (fun l => l[i]?) h.1
        simp only [List.getElem?_map, hq, he, Option.map_some, Option.some.injEq] at this
        exact this
      refine ⟨if e.1 = k then (e.1, x) else e, by rw [tput, List.getElem?_map, he]; rfl, ?_⟩
      rw [← hp]
      by_cases q1 : q.1 = k
      · rw [if_pos q1, if_pos (hkey ▸ q1)]; exact hv
      · rw [if_neg q1, if_neg (hkey ▸ q1)]; exact ht
end
section
def heldOf : Option Value → List Addr
  | some (.ref e) => [e]
  | _ => []
theorem HOk.ne_new {hh : Option Value} {h : Heap} {I : Addr} (x : HOk hh h) (hI : h.get? I = none) : ∀ e, hh = some (.ref e) → e ≠ I := fun e he q => by
  rcases x with x | ⟨e', oe, vs, a, b, c⟩
  · rw [x] at he; cases he
  · rw [a] at he; cases he; rw [q, hI] at b; cases b
theorem HOk.heldIn {hh : Option Value} {h : Heap} (x : HOk hh h) : ∀ b ∈ heldOf hh, ∃ o, h.get? b = some o := fun b hb => by
  rcases x with x | ⟨e', oe, vs, a, q, c⟩
  · rw [x] at hb; cases hb
  · rw [a] at hb; rw [List.mem_singleton.mp hb]; exact ⟨_, q⟩
theorem HOk.at {hh : Option Value} {h h' : Heap} (x : HOk hh h) (k : ∀ b ∈ heldOf hh, ∀ o, h.get? b = some o → h'.get? b = some o) : HOk hh h' := by
  rcases x with x | ⟨e', oe, vs, a, q, c⟩
  · exact .inl x
  · exact .inr ⟨e', oe, vs, a, k e' (by rw [a]; exact .head _) oe q, c⟩
section
variable {pg : Program} {w : World} {A : Around} {E : Value → Shared → Prop} {s : Shared} {env : Env} {h₀ : Heap} {x : Str} {body : List Stmt} {Q : Flow → Shared → Prop}
theorem walksH {I ax : Addr} {items : Array Value} (hne : ax ≠ I) (hI : ∀ e, A.handled = some (.ref e) → e ≠ I) :
    Walks pg w A I (I :: ax :: heldOf A.handled) [I] items.size (fun i v => items[i]? = some v) (fun i h => h.IsListIter I ax i ∧ h.IsList ax items ∧ HOk A.handled h) where
  sub := fun b hb => by rw [List.mem_singleton.mp hb]; exact .head _
  frame := fun _ _ _ st hk => ⟨st.1.at fun o e => hk I (.head _) o e, st.2.1.at fun o e => hk ax (.tail _ (.head _)) o e, st.2.2.at fun b hb o e => hk b (.tail _ (.tail _ hb)) o e⟩
  item := fun i s Q E hi st hQ => by
    refine wpAny_pyNext_list_item st.1 st.2.1 (x := items[i]) (by simp [hi]) fun h' hit' hs' => ?_
    refine hQ _ h' s.toks (by simp [hi]) ⟨hit', st.2.1.extBut hs'.extBut hne, st.2.2.at fun b hb o e => (hs'.2 b fun q => ?_).trans e⟩ fun b o hb e => hs'.extBut b o (fun h => hb (by simp [h])) e
    rcases st.2.2 with z | ⟨e', oe, vs, a, _⟩
    · rw [z] at hb; cases hb
    · rw [a] at hb; exact hI e' a ((List.mem_singleton.mp hb).symm.trans q)
  done := fun s Q E st hQ => pyNext_list_endH st.2.2 hI st.1 st.2.1 (by simp) fun h' he' => hQ h' s.toks fun b o hb e => he' b o (fun h => hb (by simp [h])) e
  self := fun _ _ _ _ st hQ => wpAny_pyIter_listiter st.1 hQ

def TurnPost (Q : Flow → Shared → Prop) (G : Shared → Prop) (f : Flow) (s₂ : Shared) : Prop := match f with
  | .ret v => Q (.ret v) s₂
  | .brk => Q .next s₂
  | .next => G s₂
  | .cont => G s₂
inductive TurnEnd (h₀ : Heap) (L I : Addr) (oI : Obj) (J : (Str → Option Value) → Led → Prop) (s : Shared) (s₂ : Shared) : Prop where
  | mk (h' : Heap) (tk' : Tok) (m' : Str → Option Value) (nw' : Led) (e : s₂ = { s with heap := h', toks := tk' }) (F : Fr h₀ L h' m') (N : News h₀ L h' ((I, oI) :: nw')) (off : ∀ p ∈ nw', p.1 ≠ I) (j : J m' nw') : TurnEnd h₀ L I oI J s s₂
theorem TurnEnd.intro {L I : Addr} {oI : Obj} {J : (Str → Option Value) → Led → Prop} {h' : Heap} {tk' : Tok} {m' : Str → Option Value} {all : Led} (nw' : Led) (F : Fr h₀ L h' m') (N : News h₀ L h' all) (hI : (I, oI) ∈ all)
    (hs : ∀ p ∈ nw', p ∈ all) (hn : ∀ p ∈ nw', p.1 ≠ I) (hJ : J m' nw') : TurnEnd h₀ L I oI J s { s with heap := h', toks := tk' } :=
  ⟨h', tk', m', nw', rfl, F, fun p hp => by rcases List.mem_cons.mp hp with rfl | hp; exact N _ hI; exact N p (hs p hp), hn, hJ⟩
theorem for_listQ {l : Addr} {n : Nat} {vs : List Value} {m₀ : Str → Option Value} {news : Led} (J : Nat → (Str → Option Value) → Led → Prop) (hh : HOk A.handled h₀) (F : Fr h₀ env.locals s.heap m₀) (N : News h₀ env.locals s.heap news)
    (hm : (l, listO vs n) ∈ news) (hj : J 0 m₀ news) (keep : ∀ i m nw, J i m nw → (l, listO vs n) ∈ nw)
    (turn : ∀ i v m₁ nw I oI h tk, vs[i]? = some v → J i m₁ nw → (∀ p ∈ nw, p.1 ≠ I) → (∀ p ∈ news, p.1 < I) → (∀ xs n, oI.data ≠ .seq xs n) → Fr h₀ env.locals h (fun y => if y = x then some v else m₁ y) → News h₀ env.locals h ((I, oI) :: nw) →
      wpAny (model pg w) A (execs body env) (TurnPost Q (TurnEnd h₀ env.locals I oI (J (i + 1)) s)) E { s with heap := h, toks := tk })
    (done : ∀ m₁ nw h tk, J vs.length m₁ nw → Fr h₀ env.locals h m₁ → News h₀ env.locals h nw → Q .next { s with heap := h, toks := tk }) :
    wpAny (model pg w) A (pyIter (.ref l)) (fun it s₂ => LoopAtV pg w A h₀ env x body Q E it s₂) E s := by
  have hls : s.heap.IsList l vs.toArray := ⟨_, (N _ hm).1, rfl, n, rfl⟩
  have hlt : l < s.heap.objs.size := Heap.lt_size (N _ hm).1
  have hI₀ : h₀.get? s.heap.objs.size = none := next_is_new F
  refine wpAny_pyIter_list hls ?_
  have W := walksH (pg := pg) (w := w) (A := A) (I := s.heap.objs.size) (ax := l) (items := vs.toArray) (Nat.ne_of_lt hlt) (hh.ne_new hI₀)
  rw [show vs.toArray.size = vs.length from List.size_toArray ..] at W
  refine ⟨_, _, _, vs.length, _, _, m₀, news, J, rfl, W, ?_, ?_, ?_, ⟨⟨_, Heap.get?_push_size _ rfl, rfl, rfl⟩, hls.push _, hh.keeps fun b o e => Heap.get?_push_of_some _ (F.keep b o e)⟩, F.push _, (fun p hp => ⟨Heap.get?_push_of_some _ (N p hp).1, (N p hp).2⟩), hj, ?_, ?_⟩
  · intro hb
    rcases List.mem_cons.mp hb with e | hb
    · exact absurd F.ns.lt (e ▸ Nat.lt_irrefl _)
    · rcases List.mem_cons.mp hb with e | hb
      · exact (N _ hm).2.1 e.symm
      · obtain ⟨o, ho⟩ := hh.heldIn _ hb
        exact absurd (Nat.lt_of_lt_of_le (Heap.lt_size ho) F.above) (Nat.lt_irrefl _)
  · intro b hb
    rw [List.mem_singleton.mp hb]; exact hI₀
  · intro p hp hI
    exact absurd (Heap.lt_size (N p hp).1) ((List.mem_singleton.mp hI) ▸ Nat.lt_irrefl _)
  · rintro i v m₁ nw s₁ own ⟨hh', tk', rfl⟩ hin hP hJ hoff hsub hget hall hst F₁ N₁
    obtain ⟨oI, heI, _, hdI⟩ := hst.1
    have hsI : ∀ xs n, oI.data ≠ .seq xs n := fun xs n e => by rw [hdI] at e; cases e
    have hown : ∀ p ∈ own, p = (s.heap.objs.size, oI) ∨ p ∈ nw := fun p hp => by
      have g := hget p hp
      have f0 := (N₁ p (List.mem_append_left _ hp)).2.2
      rcases List.mem_cons.mp (hsub p hp) with e | hb
      · refine .inl ?_
        rw [e, heI] at g
        exact Prod.ext e (Option.some.inj g).symm
      · rcases List.mem_cons.mp hb with e | hb
        · refine .inr ?_
          have z := (N₁ _ (List.mem_append_right _ (keep _ _ _ hJ))).1
          rw [e, z] at g
          have : p = (l, listO vs n) := Prod.ext e (Option.some.inj g).symm
          rw [this]; exact keep _ _ _ hJ
        · obtain ⟨o, ho⟩ := hh.heldIn _ hb
          rw [ho] at f0; cases f0
    have hnI : ∀ p ∈ nw, p.1 ≠ s.heap.objs.size := fun p hp q => hoff p hp (List.mem_singleton.mpr q)
    have hIown : (s.heap.objs.size, oI) ∈ own := hall _ (.head _) hI₀ _ heI
    refine wpAny_mono (turn i v m₁ nw s.heap.objs.size oI hh' tk' (by simpa using hP) hJ hnI (fun p hp => Heap.lt_size (N p hp).1) hsI F₁ fun p hp => ?_) (fun f s₂ p => ?_) fun _ _ e => e
    · rcases List.mem_cons.mp hp with rfl | hp
      · exact N₁ _ (List.mem_append_left _ hIown)
      · exact N₁ p (List.mem_append_right _ hp)
    · have fin : TurnEnd h₀ env.locals s.heap.objs.size oI (J (i + 1)) s s₂ → LoopStepU h₀ env.locals [s.heap.objs.size] own (J (i + 1)) { s with heap := hh', toks := tk' } .next s₂ := by
        rintro ⟨h', tk, m', nw', e, F', N', hn', hJ'⟩
        subst e
        refine ⟨rfl, h', tk, m', nw', rfl, F', fun p hp => ?_, fun p hp q => hn' p hp (List.mem_singleton.mp q), hJ'⟩
        rcases List.mem_append.mp hp with hp | hp
        · rcases hown p hp with rfl | hp'
          · exact N' _ (.head _)
          · have hl' := keep _ _ _ hJ'
            have g := hget p hp
            have e1 := hsub p hp
            rcases List.mem_cons.mp e1 with e | hb
            · exact absurd e (hnI p hp')
            · rcases List.mem_cons.mp hb with e | hb
              · have z := (N₁ _ (List.mem_append_right _ (keep _ _ _ hJ))).1
                rw [e, z] at g
                have : p = (l, listO vs n) := Prod.ext e (Option.some.inj g).symm
                rw [this]; exact N' _ (.tail _ hl')
              · obtain ⟨o, ho⟩ := hh.heldIn _ hb
                have f0 := (N₁ p (List.mem_append_left _ hp)).2.2
                rw [ho] at f0; cases f0
        · exact N' p (.tail _ hp)
      cases f with
      | ret v => exact .ret p
      | brk => exact .brk p
      | next => exact .next (fin p)
      | cont => exact .cont (fin p)
  · rintro h' tk m' nw' F' N' _ hJ
    exact done m' nw' h' tk hJ F' N'
theorem for_list {l : Addr} {n : Nat} {vs : List Value} {m₀ : Str → Option Value} {news : Led} (J : Nat → (Str → Option Value) → Led → Prop) (hh : HOk A.handled h₀) (F : Fr h₀ env.locals s.heap m₀) (N : News h₀ env.locals s.heap news)
    (hm : (l, listO vs n) ∈ news) (hj : J 0 m₀ news) (keep : ∀ i m nw, J i m nw → (l, listO vs n) ∈ nw)
    (turn : ∀ i v m₁ nw I oI h tk, vs[i]? = some v → J i m₁ nw → (∀ p ∈ nw, p.1 ≠ I) → (∀ p ∈ news, p.1 < I) → Fr h₀ env.locals h (fun y => if y = x then some v else m₁ y) → News h₀ env.locals h ((I, oI) :: nw) →
      wpAny (model pg w) A (execs body env) (TurnPost Q (TurnEnd h₀ env.locals I oI (J (i + 1)) s)) E { s with heap := h, toks := tk })
    (done : ∀ m₁ nw h tk, J vs.length m₁ nw → Fr h₀ env.locals h m₁ → News h₀ env.locals h nw → Q .next { s with heap := h, toks := tk }) :
    wpAny (model pg w) A (pyIter (.ref l)) (fun it s₂ => LoopAtV pg w A h₀ env x body Q E it s₂) E s :=
  for_listQ J hh F N hm hj keep (fun i v m₁ nw I oI h tk a b c d _ => turn i v m₁ nw I oI h tk a b c d) done
end
end
section
section
variable {pg : Program} {w : World} {A : Around} {E : Value → Shared → Prop} {s : Shared} {h₀ : Heap} {L : Addr} {m : Str → Option Value} {env : Env}
open LCg LCt
theorem cend_up {s₁ : Shared} {I C D : Addr} {oI oC oD : Obj} {S S' : Led → Prop} {r r' : Value → Led → Prop} {y : Value} {s₂ : Shared} (x : CompEnd h₀ L m s₁ I oI C oC D oD S r y s₂) (hr : ∀ nw, r y nw → S' nw ∧ r' y nw) :
    CompEnd h₀ L m s₁ I oI C oC D oD S' r' y s₂ := by
  obtain ⟨h', tk, nw, e, F, N, off, hS, hR⟩ := x
  exact ⟨h', tk, nw, e, F, N, off, (hr nw hR).1, (hr nw hR).2⟩
def CTrue : Led → Prop := fun _ => True
/-- the turns of a comprehension by what holds between them -/
theorem rest_inv {elt : Expr} {x : Str} {scope : Scope} {cl : List (Str × Addr)} {S : Led → Prop} {P : Nat → Value → Prop} {Fin : List Value → Led → Prop} {n : Nat} (Inv : Nat → List Value → Led → Prop) (hS : ∀ i ys nw, Inv i ys nw → S nw)
    (step : ∀ i v ys nw I oI C oC D m₂ h tk (E' : Value → Shared → Prop), i < n → P i v → Inv i ys nw → NsObj oC m₂ → m₂ x = some v → Fr h₀ L h m → News h₀ L h ((I, oI) :: (C, oC) :: (D, lst ys) :: nw) → Off3 I C D nw → ((@Ne Nat I C) ∧ (@Ne Nat I D) ∧ (@Ne Nat C D)) →
      wpAny (model pg w) A (eval elt (compEnvC scope cl C env)) (CompEnd h₀ L m { s with heap := h, toks := tk } I oI C oC D (lst ys) CTrue (fun y nw' => Inv (i + 1) (ys ++ [y]) nw')) E' { s with heap := h, toks := tk })
    (fin : ∀ ys nw, Inv n ys nw → Fin ys nw) : ∀ k i ys nw, k + i = n → Inv i ys nw → CompRest pg w A h₀ L m env elt x scope cl s S P Fin k i ys nw
  | 0, i, ys, nw, e, h => fin ys nw (by rw [show n = i by omega]; exact h)
  | k + 1, i, ys, nw, e, h => CompRest.succ fun v I oI C oC D m₂ hp tk E' hP hC hx F N off ne =>
    wpAny_mono (step i v ys nw I oI C oC D m₂ hp tk E' (by omega) hP h hC hx F N off ne) (fun y s₂ z => cend_up z fun nw' q => ⟨hS _ _ _ q, rest_inv Inv hS step fin k (i + 1) (ys ++ [y]) nw' (by omega) q⟩) fun _ _ z => z
theorem restT_inv {ct elt : Expr} {x : Str} {scope : Scope} {cl : List (Str × Addr)} {S : Led → Prop} {P : Nat → Value → Prop} {Fin : List Value → Led → Prop} {n : Nat} (Inv : Nat → List Value → Led → Prop) (hS : ∀ i ys nw, Inv i ys nw → S nw)
    (step : ∀ i v ys nw I oI C oC D m₂ h tk (E' : Value → Shared → Prop), i < n → P i v → Inv i ys nw → NsObj oC m₂ → m₂ x = some v → Fr h₀ L h m → News h₀ L h ((I, oI) :: (C, oC) :: (D, lst ys) :: nw) → Off3 I C D nw → ((@Ne Nat I C) ∧ (@Ne Nat I D) ∧ (@Ne Nat C D)) →
      wpAny (model pg w) A (isTrue ct (compEnvC scope cl C env) (eval ct (compEnvC scope cl C env))) (fun ok s' => if ok = true then
        wpAny (model pg w) A (eval elt (compEnvC scope cl C env)) (CompEnd h₀ L m { s with heap := h, toks := tk } I oI C oC D (lst ys) CTrue (fun y nw' => Inv (i + 1) (ys ++ [y]) nw')) E' s'
        else CompEnd h₀ L m { s with heap := h, toks := tk } I oI C oC D (lst ys) CTrue (fun _ nw' => Inv (i + 1) ys nw') Value.none s') E' { s with heap := h, toks := tk })
    (fin : ∀ ys nw, Inv n ys nw → Fin ys nw) : ∀ k i ys nw, k + i = n → Inv i ys nw → CompRestT pg w A h₀ L m env ct elt x scope cl s S P Fin k i ys nw
  | 0, i, ys, nw, e, h => fin ys nw (by rw [show n = i by omega]; exact h)
  | k + 1, i, ys, nw, e, h => CompRestT.succ fun v I oI C oC D m₂ hp tk E' hP hC hx F N off ne =>
    wpAny_mono (step i v ys nw I oI C oC D m₂ hp tk E' (by omega) hP h hC hx F N off ne) (fun ok s₂ z => by
      cases ok with
      | true =>
        simp only [if_true] at z ⊢
        exact wpAny_mono z (fun y s₃ z => cend_up z fun nw' q => ⟨hS _ _ _ q, restT_inv Inv hS step fin k (i + 1) (ys ++ [y]) nw' (by omega) q⟩) fun _ _ z => z
      | false =>
        simp only [Bool.false_eq_true, if_false] at z ⊢
        exact cend_up z fun nw' q => ⟨hS _ _ _ q, restT_inv Inv hS step fin k (i + 1) ys nw' (by omega) q⟩) fun _ _ z => z

/-- what a comprehension over a list of the ledger asks -/
def CSrc (pg : Program) (w : World) (A : Around) (h₀ : Heap) (L : Addr) (m : Str → Option Value) (env : Env) (elt : Expr) (x : Str) (scope : Scope) (cl : List (Str × Addr)) (Fin : Shared → List Value → Led → Prop) (xv : Value) (s₁ : Shared) : Prop :=
  ∃ l vs n nw, xv = .ref l ∧ HOk A.handled h₀ ∧ Fr h₀ L s₁.heap m ∧ News h₀ L s₁.heap nw ∧ (l, listO vs n) ∈ nw ∧ vs.length ≤ sizeLine ∧
    ∀ s₂ : Shared, (∃ h, s₂ = { s₁ with heap := h }) → CompRest pg w A h₀ L m env elt x scope cl s₂ (fun nw => (l, listO vs n) ∈ nw) (fun i v => vs.toArray[i]? = some v) (Fin s₂) vs.length 0 [] nw
def CSrcT (pg : Program) (w : World) (A : Around) (h₀ : Heap) (L : Addr) (m : Str → Option Value) (env : Env) (ct elt : Expr) (x : Str) (scope : Scope) (cl : List (Str × Addr)) (Fin : Shared → List Value → Led → Prop) (xv : Value) (s₁ : Shared) : Prop :=
  ∃ l vs n nw, xv = .ref l ∧ HOk A.handled h₀ ∧ Fr h₀ L s₁.heap m ∧ News h₀ L s₁.heap nw ∧ (l, listO vs n) ∈ nw ∧ vs.length ≤ sizeLine ∧
    ∀ s₂ : Shared, (∃ h, s₂ = { s₁ with heap := h }) → CompRestT pg w A h₀ L m env ct elt x scope cl s₂ (fun nw => (l, listO vs n) ∈ nw) (fun i v => vs.toArray[i]? = some v) (Fin s₂) vs.length 0 [] nw

theorem CSrc.mk {elt : Expr} {x : Str} {scope : Scope} {cl : List (Str × Addr)} {Fin : Shared → List Value → Led → Prop} {l : Addr} {vs : List Value} {n : Nat} {nw : Led} {s₁ : Shared} (hh : HOk A.handled h₀) (F : Fr h₀ L s₁.heap m) (N : News h₀ L s₁.heap nw) (hm : (l, listO vs n) ∈ nw) (hsz : vs.length ≤ sizeLine)
    (Inv : Nat → List Value → Led → Prop) (h0 : Inv 0 [] nw) (hS : ∀ i ys nw, Inv i ys nw → (l, listO vs n) ∈ nw)
    (step : ∀ i v ys nw I oI C oC D m₂ h tk (E' : Value → Shared → Prop), vs[i]? = some v → Inv i ys nw → NsObj oC m₂ → m₂ x = some v → Fr h₀ L h m → News h₀ L h ((I, oI) :: (C, oC) :: (D, lst ys) :: nw) → Off3 I C D nw → ((@Ne Nat I C) ∧ (@Ne Nat I D) ∧ (@Ne Nat C D)) →
      wpAny (model pg w) A (eval elt (compEnvC scope cl C env)) (CompEnd h₀ L m { s₁ with heap := h, toks := tk } I oI C oC D (lst ys) CTrue (fun y nw' => Inv (i + 1) (ys ++ [y]) nw')) E' { s₁ with heap := h, toks := tk })
    (fin : ∀ (g : Heap) ys nw, Inv vs.length ys nw → Fin { s₁ with heap := g } ys nw) : CSrc pg w A h₀ L m env elt x scope cl Fin (.ref l) s₁ :=
  ⟨l, vs, n, nw, rfl, hh, F, N, hm, hsz, fun s₂ ⟨g, e⟩ => by
    subst e
    exact rest_inv (s := { s₁ with heap := g }) (P := fun i v => vs.toArray[i]? = some v) Inv hS (fun i v ys nw I oI C oC D m₂ h tk E' hi hP => step i v ys nw I oI C oC D m₂ h tk E' (by simpa using hP)) (fin g) vs.length 0 [] nw rfl h0⟩
theorem CSrcT.mk {ct elt : Expr} {x : Str} {scope : Scope} {cl : List (Str × Addr)} {Fin : Shared → List Value → Led → Prop} {l : Addr} {vs : List Value} {n : Nat} {nw : Led} {s₁ : Shared} (hh : HOk A.handled h₀) (F : Fr h₀ L s₁.heap m) (N : News h₀ L s₁.heap nw) (hm : (l, listO vs n) ∈ nw) (hsz : vs.length ≤ sizeLine)
    (Inv : Nat → List Value → Led → Prop) (h0 : Inv 0 [] nw) (hS : ∀ i ys nw, Inv i ys nw → (l, listO vs n) ∈ nw)
    (step : ∀ i v ys nw I oI C oC D m₂ h tk (E' : Value → Shared → Prop), vs[i]? = some v → Inv i ys nw → NsObj oC m₂ → m₂ x = some v → Fr h₀ L h m → News h₀ L h ((I, oI) :: (C, oC) :: (D, lst ys) :: nw) → Off3 I C D nw → ((@Ne Nat I C) ∧ (@Ne Nat I D) ∧ (@Ne Nat C D)) →
      wpAny (model pg w) A (isTrue ct (compEnvC scope cl C env) (eval ct (compEnvC scope cl C env))) (fun ok s' => if ok = true then
        wpAny (model pg w) A (eval elt (compEnvC scope cl C env)) (CompEnd h₀ L m { s₁ with heap := h, toks := tk } I oI C oC D (lst ys) CTrue (fun y nw' => Inv (i + 1) (ys ++ [y]) nw')) E' s'
        else CompEnd h₀ L m { s₁ with heap := h, toks := tk } I oI C oC D (lst ys) CTrue (fun _ nw' => Inv (i + 1) ys nw') Value.none s') E' { s₁ with heap := h, toks := tk })
    (fin : ∀ (g : Heap) ys nw, Inv vs.length ys nw → Fin { s₁ with heap := g } ys nw) : CSrcT pg w A h₀ L m env ct elt x scope cl Fin (.ref l) s₁ :=
  ⟨l, vs, n, nw, rfl, hh, F, N, hm, hsz, fun s₂ ⟨g, e⟩ => by
    subst e
    exact restT_inv (s := { s₁ with heap := g }) (P := fun i v => vs.toArray[i]? = some v) Inv hS (fun i v ys nw I oI C oC D m₂ h tk E' hi hP => step i v ys nw I oI C oC D m₂ h tk E' (by simpa using hP)) (fin g) vs.length 0 [] nw rfl h0⟩

/-- the list a comprehension goes over, once its iterator stands -/
theorem comp_start {l : Addr} {vs : List Value} {n : Nat} {nw : Led} {s₁ : Shared} {Q : Value → Shared → Prop} (hh : HOk A.handled h₀) (F : Fr h₀ L s₁.heap m) (N : News h₀ L s₁.heap nw) (hm : (l, listO vs n) ∈ nw)
    (h : ∀ I g, Walks pg w A I (I :: l :: heldOf A.handled) [I] vs.length (fun i v => vs.toArray[i]? = some v) (fun i h => h.IsListIter I l i ∧ h.IsList l vs.toArray ∧ HOk A.handled h) →
      (∀ i h, (h.IsListIter I l i ∧ h.IsList l vs.toArray ∧ HOk A.handled h) → ∃ o, h.get? I = some o) →
      (∀ i h h' o nw, (h.IsListIter I l i ∧ h.IsList l vs.toArray ∧ HOk A.handled h) → h.get? I = some o → h'.get? I = some o → (∀ b o, h₀.get? b = some o → h'.get? b = some o) → News h₀ L h' nw → (l, listO vs n) ∈ nw → (h'.IsListIter I l i ∧ h'.IsList l vs.toArray ∧ HOk A.handled h')) →
      (g.IsListIter I l 0 ∧ g.IsList l vs.toArray ∧ HOk A.handled g) → (∀ b ∈ I :: l :: heldOf A.handled, b < g.objs.size) → Fr h₀ L g m → News h₀ L g nw → L ≠ I → h₀.get? I = none → (∀ p ∈ nw, p.1 ≠ I) → Q (.ref I) { s₁ with heap := g }) :
    wpAny (model pg w) A (pyIter (.ref l)) Q E s₁ := by
  have hl : s₁.heap.IsList l vs.toArray := ⟨_, (N _ hm).1, rfl, n, rfl⟩
  have hlt : l < s₁.heap.objs.size := Heap.lt_size (N _ hm).1
  have hI₀ : h₀.get? s₁.heap.objs.size = none := next_is_new F
  refine wpAny_pyIter_list hl ?_
  have up : ∀ b o, s₁.heap.get? b = some o → (s₁.heap.push { cls := .type "list_iterator", data := .fields #[.ref l, .int 0 0] }).get? b = some o := fun b o e => Heap.get?_push_of_some _ e
  have W := walksH (pg := pg) (w := w) (A := A) (I := s₁.heap.objs.size) (ax := l) (items := vs.toArray) (Nat.ne_of_lt hlt) (hh.ne_new hI₀)
  rw [show vs.toArray.size = vs.length from List.size_toArray ..] at W
  refine h _ _ W (fun i h st => by obtain ⟨o, e, _⟩ := st.1; exact ⟨o, e⟩) (fun i h h' o nw st e e' k N' hS => ⟨?_, ⟨_, (N' _ hS).1, rfl, n, rfl⟩, hh.keeps k⟩) ⟨⟨_, Heap.get?_push_size _ rfl, rfl, rfl⟩, hl.push _, hh.keeps fun b o e => up _ _ (F.keep b o e)⟩ (fun b hb => ?_)
    (F.keeps up) (N.grown up) (Nat.ne_of_lt F.ns.lt) hI₀ (fun p hp => Nat.ne_of_lt (Heap.lt_size (N p hp).1))
  · obtain ⟨o', q, r⟩ := st.1
    rw [e] at q; cases q; exact ⟨o, e', r⟩
  · show b < (s₁.heap.push _).objs.size
    rw [Heap.size_push]
    rcases List.mem_cons.mp hb with rfl | hb
    · exact Nat.lt_succ_self _
    · rcases List.mem_cons.mp hb with rfl | hb
      · exact Nat.lt_succ_of_lt hlt
      · obtain ⟨o, ho⟩ := hh.heldIn _ hb
        exact Nat.lt_succ_of_lt (Heap.lt_size (F.keep _ _ ho))
theorem news_let {D C : Addr} {o : Obj} {h h'' : Heap} {nw : Led} (hs : Heap.SameBut C h h'') (N : News h₀ L h ((D, o) :: nw)) (hCD : C ≠ D) (offC : ∀ p ∈ nw, p.1 ≠ C) : News h₀ L h'' ((D, o) :: nw) := fun p hp => by
  refine ⟨(hs.2 _ ?_).trans (N p hp).1, (N p hp).2⟩
  rcases List.mem_cons.mp hp with rfl | hp
  · exact Ne.symm hCD
  · exact offC p hp

theorem evalComp {elt iter : Expr} {x : Str} {px : Pos} {scope : Scope} {cl : List (Str × Addr)} {pos : Pos} {Q : Value → Shared → Prop} (F₀ : Fr h₀ L s.heap m)
    (hclos : closureFor scope env = pure cl) (hcell : ∀ y ∈ scope.names, y.2 ≠ .cell) (hkind : scope.kind = .function)
    (hnames : ∀ y ∈ scope.names, y.2 = .local → scope.names.lookup y.1 = some .local) (hx : scope.names.lookup x = some .local)
    (h : wpAny (model pg w) A (eval iter env) (CSrc pg w A h₀ L m env elt x scope cl (fun s₂ => FinE h₀ L m s₂ Q)) E s)
    (hs : ∀ x, foldedSetIterable iter env x = pure x := by intro _; rfl) :
    wpAny (model pg w) A (eval (.ListComp elt [⟨.Name x px, iter, [], 0⟩] scope pos) env) Q E s := by
  rw [eval_ListComp]
  refine wpAny_comprehension_free (use := none) rfl hs hclos hkind hnames (wpAny_mono h (fun xv s₁ h₁ => ?_) fun _ _ e => e)
  obtain ⟨l, vs, n, nw, rfl, hh, F, N, hm, hsz, R⟩ := h₁
  refine comp_start hh F N hm fun I g W hIo hSt hst hfp F' N' hLI hI₀ off => ?_
  refine block_U W hsz hIo hSt hcell hkind hx hst hfp F' N' hLI hI₀ off hm (R _ ⟨g, rfl⟩) ?_
  intro D C h tk m' ys news' F'' N'' o1 hn hC₀ hD₀ hCL hDL hCD offC fin
  exact ⟨m', hn, fun h'' hs'' => fin D h'' tk (F''.change hs'' hCL hC₀) (news_let hs'' N'' hCD offC) o1⟩
theorem evalCompT {ct elt iter : Expr} {x : Str} {px : Pos} {scope : Scope} {cl : List (Str × Addr)} {pos : Pos} {Q : Value → Shared → Prop} (F₀ : Fr h₀ L s.heap m)
    (hclos : closureFor scope env = pure cl) (hcell : ∀ y ∈ scope.names, y.2 ≠ .cell) (hkind : scope.kind = .function)
    (hnames : ∀ y ∈ scope.names, y.2 = .local → scope.names.lookup y.1 = some .local) (hx : scope.names.lookup x = some .local)
    (h : wpAny (model pg w) A (eval iter env) (CSrcT pg w A h₀ L m env ct elt x scope cl (fun s₂ => FinE h₀ L m s₂ Q)) E s)
    (hs : ∀ x, foldedSetIterable iter env x = pure x := by intro _; rfl) :
    wpAny (model pg w) A (eval (.ListComp elt [⟨.Name x px, iter, [ct], 0⟩] scope pos) env) Q E s := by
  rw [eval_ListComp]
  refine wpAny_comprehension_free (use := none) rfl hs hclos hkind hnames (wpAny_mono h (fun xv s₁ h₁ => ?_) fun _ _ e => e)
  obtain ⟨l, vs, n, nw, rfl, hh, F, N, hm, hsz, R⟩ := h₁
  refine comp_start hh F N hm fun I g W hIo hSt hst hfp F' N' hLI hI₀ off => ?_
  refine block_T W hsz hIo hSt hcell hkind hx hst hfp F' N' hLI hI₀ off hm (R _ ⟨g, rfl⟩) ?_
  intro D C h tk m' ys news' F'' N'' o1 hn hC₀ hD₀ hCL hDL hCD offC fin
  exact ⟨m', hn, fun h'' hs'' => fin D h'' tk (F''.change hs'' hCL hC₀) (news_let hs'' N'' hCD offC) o1⟩
theorem assignComp {elt iter : Expr} {x y : Str} {px py : Pos} {scope : Scope} {cl : List (Str × Addr)} {pos spos : Pos} {Q : Flow → Shared → Prop} (F₀ : Fr h₀ L s.heap m) (hLe : env.locals = L)
    (hsw : swapsWith (.ListComp elt [⟨.Name x px, iter, [], 0⟩] scope pos) (some (.Name y py)) spos.line env = pure true)
    (hclos : closureFor scope env = pure cl) (hcell : ∀ z ∈ scope.names, z.2 ≠ .cell) (hkind : scope.kind = .function)
    (hnames : ∀ z ∈ scope.names, z.2 = .local → scope.names.lookup z.1 = some .local) (hx : scope.names.lookup x = some .local)
    (hy : env.kindOf y = some .local) (hp : (env.scope.kind == .class || (env.scope.kind == .module && env.locals != env.globals)) = false)
    (h : wpAny (model pg w) A (eval iter env) (CSrc pg w A h₀ L m env elt x scope cl (fun s₂ => FinA h₀ L m s₂ y Q)) E s)
    (hs : ∀ x, foldedSetIterable iter env x = pure x := by intro _; rfl) :
    wpAny (model pg w) A (exec (.Assign [.Name y py] (.ListComp elt [⟨.Name x px, iter, [], 0⟩] scope pos) spos) env) Q E s := by
  subst hLe
  rw [exec_Assign_Name_used _ _ _ _ hsw]
  refine wpAny_bind (wpAny_standAt (wpAny_bind ?_))
  show wpAny _ A (do let _ ← comprehension (.ListComp elt [⟨.Name x px, iter, [], 0⟩] scope pos) scope env _ (newList []) false (eval iter env) (some (assign (.Name y py) env))) _ _ s
  refine wpAny_bind (wpAny_mono (wpAny_comprehension_free (use := some (assign (.Name y py) env)) (Q := fun _ s' => Q .next s') rfl hs hclos hkind hnames
    (wpAny_mono h (fun xv s₁ h₁ => ?_) fun _ _ e => e)) (fun _ s' hq => wpAny_pure (wpAny_pure hq)) fun _ _ e => e)
  obtain ⟨l, vs, n, nw, rfl, hh, F, N, hm, hsz, R⟩ := h₁
  refine comp_start hh F N hm fun I g W hIo hSt hst hfp F' N' hLI hI₀ off => ?_
  refine block_U W hsz hIo hSt hcell hkind hx hst hfp F' N' hLI hI₀ off hm (R _ ⟨g, rfl⟩) ?_
  intro D C h tk m' ys news' F'' N'' o1 hn hC₀ hD₀ hCL hDL hCD offC fin
  show wpAny _ A (assign (.Name y py) env (.ref D)) _ _ _
  refine wpAny_assign_Name (wpAny_storeName_local hy F''.ns (fun h₂ hn₂ hs₂ => ?_) hp)
  have F₂ := F''.set hn₂ hs₂
  have N₂ := N''.set hs₂
  exact ⟨m', hn.sameBut hs₂ hCL, fun h'' hs'' => fin D h'' _ (F₂.change hs'' hCL hC₀) (news_let hs'' N₂ hCD offC) o1⟩
end
end
section
section
variable {pg : Program} {w : World} {A : Around} {E : Value → Shared → Prop} {s : Shared} {h₀ : Heap} {L l : Addr} {m : Str → Option Value} {news : Led} {vs ws : List Value} {n k : Nat}
theorem isListN {h : Heap} (N : News h₀ L h news) (hm : (l, listO vs n) ∈ news) : h.IsList l vs.toArray := ⟨_, (N _ hm).1, rfl, n, rfl⟩
theorem any_mem (xs : List Str) (x : Str) : (xs.any (· == x)) = decide (x ∈ xs) := by
  rw [Bool.eq_iff_iff]
  simp only [List.any_eq_true, beq_iff_eq, decide_eq_true_eq]
  exact ⟨fun ⟨y, h, e⟩ => e ▸ h, fun h => ⟨x, h, rfl⟩⟩
theorem inTexts {xs : List Str} {x : Str} {t : Tok} {Q : Value → Shared → Prop} (N : News h₀ L s.heap news) (hm : (l, listO vs n) ∈ news) (hs : StrsAre vs xs) (h : Q (.bool (decide (x ∈ xs))) s) : wpAny (model pg w) A (compareOp .In (.str x t) (.ref l)) Q E s :=
  in_list_strs (isListN N hm) hs (by rw [any_mem]; exact h)
theorem notinTexts {xs : List Str} {x : Str} {t : Tok} {Q : Value → Shared → Prop} (N : News h₀ L s.heap news) (hm : (l, listO vs n) ∈ news) (hs : StrsAre vs xs) (h : Q (.bool (!decide (x ∈ xs))) s) : wpAny (model pg w) A (compareOp .NotIn (.str x t) (.ref l)) Q E s :=
  notin_list_strs (isListN N hm) hs (by rw [any_mem]; exact h)
theorem addLists {b : Addr} {Q : Value → Shared → Prop} (F : Fr h₀ L s.heap m) (N : News h₀ L s.heap news) (hm : (l, listO vs n) ∈ news) (hb : (b, listO ws k) ∈ news) (hsz : vs.length + ws.length ≤ sizeLine)
    (h : ∀ D h', Fr h₀ L h' m → News h₀ L h' ((D, listO (vs ++ ws) 0) :: news) → (∀ p ∈ news, p.1 < D) → Q (.ref D) { s with heap := h' }) : wpAny (model pg w) A (binaryOp .Add (.ref l) (.ref b)) Q E s :=
  add_lists (hsz := hsz) F N (isListN N hm) (isListN N hb) fun h' F' N' => h _ h' F' N' fun p hp => Heap.lt_size (N p hp).1
theorem strs_len {xs : List Str} (h : StrsAre vs xs) : vs.length = xs.length := by induction h with
  | nil => rfl
  | cons _ _ _ ih => simp [ih]
theorem strs_app {xs ys : List Str} (h : StrsAre vs xs) (g : StrsAre ws ys) : StrsAre (vs ++ ws) (xs ++ ys) := by induction h with
  | nil => exact g
  | cons y t _ ih => exact .cons y t ih
theorem strs_get {xs : List Str} (h : StrsAre vs xs) : ∀ (i : Nat) v, vs[i]? = some v → ∃ x t, v = Value.str x t ∧ xs[i]? = some x := by induction h with
  | nil => intro i v e; simp at e
  | cons y t _ ih =>
    intro i v e
    cases i with
    | zero => simp at e; exact ⟨y, t, e.symm, rfl⟩
    | succ i => exact ih i v (by simpa using e)
theorem line_small {n : Nat} (h : n ≤ 16777216) : n ≤ sizeLine := by rw [sizeLine_eq]; exact h
end
end
section
section
open PySem.SeqAt PySem.Calls
variable {pg : Program} {w : World} {A : Around} {E : Value → Shared → Prop} {s : Shared} {h₀ : Heap} {L l b : Addr} {m : Str → Option Value} {news : Led} {vs ws : List Value} {n k : Nat}
theorem eqNil {Q : Value → Shared → Prop} (N : News h₀ L s.heap news) (hm : (l, listO vs n) ∈ news) (hb : (b, listO [] k) ∈ news) (hu : A.units < cLine) (h : Q (.bool (decide (vs = []))) s) : wpAny (model pg w) A (compareOp .Eq (.ref l) (.ref b)) Q E s := by
  cases vs with
  | nil => exact RcAt.lists (e := fun _ => true) (isListN N hm) (isListN N hb) rfl hu (fun j h1 _ => by simp at h1) pg w E Q (by simpa using h)
  | cons v r => exact RcAt.lists_lengths (isListN N hm) (isListN N hb) (by simp) hu pg w E Q (by simpa using h)
theorem neNil {Q : Value → Shared → Prop} (N : News h₀ L s.heap news) (hm : (l, listO vs n) ∈ news) (hb : (b, listO [] k) ∈ news) (hu : A.units < cLine) (h : Q (.bool (!decide (vs = []))) s) : wpAny (model pg w) A (compareOp .NotEq (.ref l) (.ref b)) Q E s := by
  cases vs with
  | nil => exact RcNeAt.lists (e := fun _ => true) (isListN N hm) (isListN N hb) rfl hu (fun j h1 _ => by simp at h1) pg w E Q (by simpa using h)
  | cons v r => exact RcNeAt.lists_lengths (isListN N hm) (isListN N hb) (by simp) hu pg w E Q (by simpa using h)
theorem strs_eqAt {xs ys : List Str} (hx : StrsAre vs xs) (hy : StrsAre ws ys) (e : xs.length = ys.length) : ∀ j (h1 : j < vs.toArray.size) (h2 : j < ws.toArray.size), EqAt A s vs.toArray[j] ws.toArray[j] (xs[j]? == ys[j]?) := fun j h1 h2 => by
  have h1' : j < vs.length := by simpa using h1
  have h2' : j < ws.length := by simpa using h2
  obtain ⟨x, t, e1, e2⟩ := strs_get hx j _ (List.getElem?_eq_getElem h1')
  obtain ⟨y, u, e3, e4⟩ := strs_get hy j _ (List.getElem?_eq_getElem h2')
  rw [List.getElem_toArray, List.getElem_toArray, e1, e3, e2, e4]
  have := EqAt.str_str (A := A) (s := s) x t y u
  simpa using this
theorem all_range_eq {xs ys : List Str} (e : xs.length = ys.length) : ((List.range xs.length).all fun j => xs[j]? == ys[j]?) = decide (xs = ys) := by
  rw [Bool.eq_iff_iff, List.all_eq_true, decide_eq_true_eq]
  constructor
  · intro h
    apply List.ext_getElem?
    intro i
    rcases Nat.lt_or_ge i xs.length with q | q
    · simpa using h i (List.mem_range.mpr q)
    · rw [List.getElem?_eq_none q, List.getElem?_eq_none (by omega)]
  · rintro rfl j _; simp
theorem neTexts {xs ys : List Str} {Q : Value → Shared → Prop} (N : News h₀ L s.heap news) (hm : (l, listO vs n) ∈ news) (hb : (b, listO ws k) ∈ news) (hx : StrsAre vs xs) (hy : StrsAre ws ys) (hu : A.units < cLine) (h : Q (.bool (!decide (xs = ys))) s) :
    wpAny (model pg w) A (compareOp .NotEq (.ref l) (.ref b)) Q E s := by
  have l1 := strs_len hx
  have l2 := strs_len hy
  by_cases e : xs.length = ys.length
  · refine RcNeAt.lists (e := fun j => xs[j]? == ys[j]?) (isListN N hm) (isListN N hb) (by simp [l1, l2, e]) hu (strs_eqAt hx hy e) pg w E Q ?_
    rw [List.size_toArray, l1, all_range_eq e]; exact h
  · refine RcNeAt.lists_lengths (isListN N hm) (isListN N hb) (by simp [l1, l2, e]) hu pg w E Q ?_
    rw [decide_eq_false (fun q => e (by rw [q]))] at h; exact h
theorem lenList {Q : Value → Shared → Prop} (N : News h₀ L s.heap news) (hm : (l, listO vs n) ∈ news) (hfit : vs.length ≤ 16777216) (h : ∀ t tk, Q (.int (vs.length : Nat) t) { s with toks := tk }) : wpAny (model pg w) A (call (.builtin "len") [.ref l]) Q E s :=
  call_len_list (isListN N hm) (by rw [List.size_toArray]; omega) (by rw [List.size_toArray]; exact h _ _)
end
end
section
theorem valueAt_cons {p : Str × Value} {r : List (Str × Value)} {k : Str} : valueAt (p :: r) k = if p.1 = k then some p.2 else valueAt r k := by
  unfold valueAt; rw [List.find?_cons]
  by_cases h : p.1 = k <;> simp [h]
theorem valueAt_stored (kvs : List (Str × Value)) (k k' : Str) (v : Value) : valueAt (stored kvs k v) k' = if k' = k then some v else valueAt kvs k' := by
  unfold stored
  split
  · rename_i h
    induction kvs with
    | nil => cases h
    | cons p r ih =>
      rw [List.map_cons, valueAt_cons, valueAt_cons]
      by_cases h1 : p.1 = k
      · by_cases h2 : k' = k
        · simp [h1, h2]
        · have h3 : ¬ k = k' := fun q => h2 q.symm
          simp only [h1, if_true, h3, if_false, h2]
          by_cases hr : (r.any fun kv => decide (kv.1 = k)) = true
          · rw [ih hr]; simp [h2]
          · have : (r.map fun kv => if kv.1 = k then (kv.1, v) else kv) = r := by
              conv => rhs; rw [← List.map_id r]
              apply List.map_congr_left
              intro e he
              have : ¬ e.1 = k := fun q => hr (List.any_eq_true.mpr ⟨e, he, by simpa using q⟩)
              simp [this]
            rw [this]
      · have hr : (r.any fun kv => decide (kv.1 = k)) = true := by simpa [List.any_cons, h1] using h
        simp only [h1, if_false]
        by_cases h2 : p.1 = k'
        · have h3 : ¬ k' = k := fun q => h1 (h2.trans q)
          simp [h2, h3]
        · simp only [h2, if_false]
          exact ih hr
  · rename_i h
    induction kvs with
    | nil => rw [List.nil_append, valueAt_cons]; by_cases q : k' = k
             · simp [q]
             · have : ¬ k = k' := fun z => q z.symm
               simp [q, this]
    | cons p r ih =>
      have h1 : ¬ p.1 = k := fun q => h (by simp [q])
      have hr : ¬ (r.any fun kv => decide (kv.1 = k)) = true := fun q => h (by rw [List.any_cons, q, Bool.or_true])
      rw [List.cons_append, valueAt_cons, valueAt_cons, ih hr]
      by_cases h2 : p.1 = k'
      · have h3 : ¬ k' = k := fun q => h1 (h2.trans q)
        simp [h2, h3]
      · simp [h2]
theorem valueAt_same (kvs : List (Str × Value)) (k : Str) (v : Value) : valueAt (stored kvs k v) k = some v := by rw [valueAt_stored, if_pos rfl]
theorem stored_new {kvs : List (Str × Value)} {k : Str} {v : Value} (h : valueAt kvs k = none) : stored kvs k v = kvs ++ [(k, v)] := by
  rw [stored, if_neg]
  intro q
  obtain ⟨p, h1, h2⟩ := List.any_eq_true.mp q
  rw [valueAt, Option.map_eq_none_iff] at h
  exact List.find?_eq_none.mp h p h1 h2
theorem stored_old_len {kvs : List (Str × Value)} {k : Str} {v u : Value} (h : valueAt kvs k = some u) : (stored kvs k v).length = kvs.length := by
  rw [stored, if_pos, List.length_map]
  rw [valueAt, Option.map_eq_some_iff] at h
  obtain ⟨p, h1, h2⟩ := h
  exact List.any_eq_true.mpr ⟨p, List.mem_of_find?_eq_some h1, by simpa using List.find?_some h1⟩
/-- a dict's items and a map of data -/
def KVR {β : Type} (R : β → Value → Prop) (kvs : List (Str × Value)) (f : Str → Option β) : Prop := ∀ k, match f k with
  | some b => ∃ v, valueAt kvs k = some v ∧ R b v
  | none => valueAt kvs k = none
def updF {β : Type} (f : Str → Option β) (k : Str) (b : β) : Str → Option β := fun y => if y = k then some b else f y
section
variable {β : Type} {R : β → Value → Prop} {kvs : List (Str × Value)} {f : Str → Option β} {k : Str} {b : β} {v : Value}
theorem KVR.some (h : KVR R kvs f) (e : f k = some b) : ∃ v, valueAt kvs k = some v ∧ R b v := by have := h k; rw [e] at this; exact this
theorem KVR.none (h : KVR R kvs f) (e : f k = none) : valueAt kvs k = none := by have := h k; rw [e] at this; exact this
theorem KVR.isSome (h : KVR R kvs f) : (valueAt kvs k).isSome = (f k).isSome := by
  have := h k
  cases e : f k with
  | none => rw [e] at this; rw [this]; rfl
  | some b => rw [e] at this; obtain ⟨v, h1, _⟩ := this; rw [h1]; rfl
theorem KVR.put (h : KVR R kvs f) (hv : R b v) : KVR R (stored kvs k v) (updF f k b) := fun y => by
  unfold updF
  rw [valueAt_stored]
  by_cases q : y = k
  · simp only [q, if_true]; exact ⟨v, rfl, hv⟩
  · simp only [q, if_false]; exact h y
theorem KVR.mono {R' : β → Value → Prop} (h : KVR R kvs f) (k : ∀ b v, R b v → R' b v) : KVR R' kvs f := fun y => by
  have := h y
  cases e : f y with
  | none => rw [e] at this; exact this
  | some b => rw [e] at this; obtain ⟨v, h1, h2⟩ := this; exact ⟨v, h1, k _ _ h2⟩
theorem KVR.nil : KVR R [] (fun _ => Option.none) := fun _ => rfl
end
abbrev isNat (n : Nat) (v : Value) : Prop := ∃ t, v = .int (n : Int) t
abbrev isBool (b : Bool) (v : Value) : Prop := v = .bool b
section
variable {pg : Program} {w : World} {A : Around} {E : Value → Shared → Prop} {s : Shared} {h₀ : Heap} {L d : Addr} {m : Str → Option Value} {news : Led} {o : Obj} {kvs : List (Str × Value)} {k : Str} {key : Value}
theorem kdaNotIn {Q : Value → Shared → Prop} (N : News h₀ L s.heap news) (hp : (d, o) ∈ news) (hd : o.IsDictOf (PySem.strKind pg w) kvs) (lo : (d == sysModules) = false) (hkey : (PySem.strKind pg w).is k key = true) (b : Bool) (hb : (valueAt kvs k).isSome = b) (h : Q (.bool (!b)) { s with toks := s.toks + 1 }) :
    wpAny (model pg w) A (compareOp .NotIn key (.ref d)) Q E s := wpAny_notIn_of hkey lo (kda_dict N hp hd).mapOf (by rw [hb]; exact h)
end
section
variable {pg : Program} {w : World} {A : Around} {E : Value → Shared → Prop} {s : Shared} {h₀ : Heap} {L d : Addr} {m : Str → Option Value} {news : Led} {o : Obj} {kvs : List (Str × Value)} {k : Str} {key v : Value}
theorem kdaGet {Q : Value → Shared → Prop} (N : News h₀ L s.heap news) (hp : (d, o) ∈ news) (hd : o.IsDictOf (PySem.strKind pg w) kvs) (hkey : (PySem.strKind pg w).is k key = true) (hl : valueAt kvs k = some v) (h : Q v { s with toks := s.toks + 1 }) :
    wpAny (model pg w) A (getItem (.ref d) key) Q E s := wpAny_getItem_of hkey (kda_dict N hp hd).mapOf hl h
end
theorem hasKey {kvs : List (Str × Value)} {k : Str} {v : Value} (h : valueAt kvs k = some v) : (valueAt kvs k).isSome = true := by rw [h]; rfl
theorem noKey {kvs : List (Str × Value)} {k : Str} (h : valueAt kvs k = none) : (valueAt kvs k).isSome = false := by rw [h]; rfl
def offF (f : Str → Option Bool) (xs : List Str) : Str → Option Bool := fun y => if y ∈ xs then some false else f y
theorem offF_cons (f : Str → Option Bool) (x : Str) (xs : List Str) : updF (offF f xs) x false = offF f (x :: xs) := by
  funext y; unfold updF offF; by_cases h : y = x <;> simp [h]
end
section
/-- the item of a list at an int place -/
def lidx (vs : List Value) (k : Int) : Option Value := if 0 ≤ k then vs[k.toNat]? else if -(vs.length : Int) ≤ k then vs[(k + vs.length).toNat]? else none
theorem lidx_last (p : List Value) (y : Value) : lidx (p ++ [y]) (-1) = some y := by
  unfold lidx
  rw [if_neg (by decide), if_pos (by simp; omega), List.length_append]
  have : (-1 + (p.length + [y].length : Nat) : Int).toNat = p.length := by simp; omega
  rw [this]; simp
theorem lidx_nat {vs : List Value} {i : Nat} {v : Value} (h : vs[i]? = some v) : lidx vs (i : Int) = some v := by
  unfold lidx; rw [if_pos (by omega)]; simpa using h
theorem lidx_at {vs : List Value} {k : Int} {i : Nat} {v : Value} (h0 : 0 ≤ k) (hk : k.toNat = i) (h : vs[i]? = some v) : lidx vs k = some v := by
  unfold lidx; rw [if_pos h0, hk]; exact h
section
variable {pg : Program} {w : World} {A : Around} {E : Value → Shared → Prop} {s : Shared} {h₀ : Heap} {L l : Addr} {m : Str → Option Value} {news : Led} {vs : List Value} {n : Nat}
theorem getAt {k : Int} {t : Tok} {v : Value} {Q : Value → Shared → Prop} (N : News h₀ L s.heap news) (hm : (l, listO vs n) ∈ news) (hz : vs.length ≤ 16777216) (hx : lidx vs k = some v) (h : Q v s) : wpAny (model pg w) A (getItem (.ref l) (.int k t)) Q E s := by
  have hl := isListN N hm
  unfold lidx at hx
  split at hx
  · rename_i h0
    have hlt : k.toNat < vs.length := (List.getElem?_eq_some_iff.mp hx).1
    exact wpAny_getItem_list hl h0 (by omega) (by simpa using hx) h
  · rename_i h0
    split at hx
    · rename_i h1
      exact wpAny_getItem_list_neg hl (by omega) (by simpa using h1) (by omega) (by simpa using hx) h
    · cases hx
theorem itemAt {value slice : PySem.Expr} {k : Int} {t : Tok} {v : Value} {Q : Value → Shared → Prop} (N : News h₀ L s.heap news) (hm : (l, listO vs n) ∈ news) (hz : vs.length ≤ 16777216) (hx : lidx vs k = some v) (h : Q v s)
    (hs : subscripted slice false (.ref l) (.int k t) = operate [.ref l, .int k t] (getItem (.ref l) (.int k t)) := by with_unfolding_all rfl) : wpAny (model pg w) A (subscriptTail value slice (.ref l) (.int k t)) Q E s :=
  tail_any (isListN N hm).typeIs slot_list_getitem.lookup (getAt N hm hz hx h) hs
theorem truthList {Q : Bool → Shared → Prop} (N : News h₀ L s.heap news) (hm : (l, listO vs n) ∈ news) (hz : vs.length ≤ 16777216) (b : Bool) (hb : (!vs.isEmpty) = b) (h : Q b { s with toks := s.toks + 1 + 1 }) : wpAny (model pg w) A (truthy (.ref l)) Q E s := by
  refine wpAny_truthy_list (isListN N hm) (by rw [List.size_toArray]; omega) ?_
  have : (!vs.toArray.isEmpty) = b := by rw [← hb]; simp
  rw [this]; exact h
theorem popLast {p : List Value} {y : Value} {news' : Led} {Q : Value → Shared → Prop} (F : Fr h₀ L s.heap m) (N : News h₀ L s.heap news) (U : Upd l (listO (p ++ [y]) n) (listO p (n + 1)) news news') (hz : p.length ≤ 10000000)
    (h : ∀ h', Fr h₀ L h' m → News h₀ L h' news' → Q y { s with heap := h' }) : wpAny (model pg w) A (call (.builtin "list.pop") [.ref l]) Q E s :=
  kl_pop F N (its := (p ++ [y]).toArray) (kpa_last y p) U (line_small (by simp; omega)) h
theorem appendO {y : Value} {news' : Led} {Q : Value → Shared → Prop} (F : Fr h₀ L s.heap m) (N : News h₀ L s.heap news) (U : Upd l (listO vs n) (listO (vs ++ [y]) (n + 1)) news news') (hz : vs.length ≤ 10000000)
    (h : ∀ h', Fr h₀ L h' m → News h₀ L h' news' → Q .none { s with heap := h' }) : wpAny (model pg w) A (call (.builtin "list.append") [.ref l, y]) Q E s :=
  append_K F N (by rw [List.push_toArray]; exact U) h (line_small (by simp; omega))
end
theorem notEmpty_snoc (p : List Value) (y : Value) : (!(p ++ [y]).isEmpty) = true := by cases p <;> rfl
/-- a goal at which the walk is to stand still -/
def Halt (p : Prop) : Prop := p
theorem halt {p : Prop} (h : Halt p) : p := h
theorem Halt.go {p : Prop} (h : p) : Halt p := h
end
section
/-- a Walker's state -/
structure TS where
  num : Str → Option Nat
  cnt : Nat
  low : Str → Option Nat
  opn : List Str
  isO : Str → Option Bool
  fnd : List (List Str)
  stk : List (Str × Nat)
structure PInv (names : List Str) (G : Str → List Str) (r0 : Nat) (S : TS) : Prop where
  inn : ∀ (x : Str) (i : Nat), S.num x = some i → x ∈ names ∧ i < S.cnt
  inj : ∀ x y i, S.num x = some i → S.num y = some i → x = y
  cntU : S.cnt + (names.filter fun x => (S.num x).isNone).length = names.length
  lowS : ∀ x, (S.low x).isSome = (S.num x).isSome
  isoS : ∀ x, (S.isO x).isSome = (S.num x).isSome
  opnI : ∀ x, x ∈ S.opn ↔ S.isO x = some true
  opnP : S.opn.Pairwise (fun x y => ∃ i j : Nat, S.num x = some i ∧ S.num y = some j ∧ i < j)
  stkI : ∀ p ∈ S.stk, p.1 ∈ S.opn ∧ p.2 ≤ (G p.1).length
  stkP : S.stk.Pairwise (fun p q => ∃ i j : Nat, S.num p.1 = some i ∧ S.num q.1 = some j ∧ j < i)
  lowLe : ∀ (x : Str) (i l : Nat), S.num x = some i → S.low x = some l → l ≤ i
  lowGe : ∀ x ∈ S.opn, ∀ l : Nat, S.low x = some l → r0 ≤ l
  bot : ∀ x k, S.stk.getLast? = some (x, k) → S.num x = some r0
  edge : ∀ p ∈ S.stk, ∀ j, j < p.2 → ∀ o, (G p.1)[j]? = some o → ∃ i l : Nat, S.num o = some i ∧ S.low p.1 = some l ∧ (S.isO o = some true → l ≤ i)
  fndI : ∀ x, S.isO x = some false ↔ ∃ g ∈ S.fnd, x ∈ g
  fndN : S.fnd.flatten.Nodup
  fndE : ∀ g ∈ S.fnd, g ≠ []
  fndT : ∀ (i : Nat) (v : Str), S.fnd[i]? = some [v] → ∀ o ∈ G v, o = v ∨ ∃ (j : Nat) (g : List Str), j < i ∧ S.fnd[j]? = some g ∧ o ∈ g
  acy : ∀ rank : Str → Nat, (∀ x ∈ names, ∀ o ∈ G x, rank o < rank x) → S.opn = (S.stk.map (·.1)).reverse ∧ (∀ x ∈ S.opn, S.low x = S.num x) ∧ (∀ g ∈ S.fnd, g.length = 1) ∧ S.stk.Pairwise (fun p q => rank p.1 < rank q.1)
  nil : S.stk = [] → S.opn = []
def enterP (S : TS) (x : Str) (stk : List (Str × Nat)) : TS := { S with num := updF S.num x S.cnt, cnt := S.cnt + 1, low := updF S.low x S.cnt, opn := S.opn ++ [x], isO := updF S.isO x true, stk := stk }
def lowP (S : TS) (x : Str) (l : Nat) (stk : List (Str × Nat)) : TS := { S with low := updF S.low x l, stk := stk }
def popP (S : TS) (pre g : List Str) (stk : List (Str × Nat)) : TS := { S with opn := pre, isO := offF S.isO g, fnd := S.fnd ++ [g.reverse], stk := stk }
theorem updF_self {β : Type} (f : Str → Option β) (x : Str) (b : β) : updF f x b x = some b := by simp [updF]
theorem updF_ne {β : Type} (f : Str → Option β) {x y : Str} (b : β) (h : ¬ y = x) : updF f x b y = f y := by simp [updF, h]
theorem filter_upd {names : List Str} (hn : names.Nodup) (f : Str → Option Nat) (o : Str) (c : Nat) (ho : o ∈ names) (hf : f o = none) :
    (names.filter fun x => (updF f o c x).isNone).length + 1 = (names.filter fun x => (f x).isNone).length := by
  induction names with
  | nil => cases ho
  | cons a r ih =>
    rw [List.nodup_cons] at hn
    by_cases h : a = o
    · subst h
      have hr : (r.filter fun x => (updF f a c x).isNone) = r.filter fun x => (f x).isNone := by
        apply List.filter_congr
        intro x hx
        rw [updF_ne f c (fun q : x = a => hn.1 (by rw [← q]; exact hx))]
      rw [List.filter_cons_of_neg (p := fun x => (updF f a c x).isNone) (by simp [updF_self]), List.filter_cons_of_pos (p := fun x => (f x).isNone) (by simp [hf]), hr, List.length_cons]
    · have hor : o ∈ r := (List.mem_cons.mp ho).resolve_left fun q => h q.symm
      have := ih hn.2 hor
      by_cases hfa : (f a).isNone = true
      · rw [List.filter_cons_of_pos (p := fun x => (updF f o c x).isNone) (by rw [updF_ne f c h]; exact hfa), List.filter_cons_of_pos (p := fun x => (f x).isNone) hfa, List.length_cons, List.length_cons]; omega
      · rw [List.filter_cons_of_neg (p := fun x => (updF f o c x).isNone) (by rw [updF_ne f c h]; exact hfa), List.filter_cons_of_neg (p := fun x => (f x).isNone) hfa]; exact this
section
variable {names : List Str} {G : Str → List Str} {r0 : Nat} {S : TS}
theorem PInv.opnNum (h : PInv names G r0 S) {x : Str} (hx : x ∈ S.opn) : ∃ i l, S.num x = some i ∧ S.low x = some l ∧ l ≤ i ∧ r0 ≤ l := by
  have h1 := (h.opnI x).mp hx
  have h2 := h.isoS x
  rw [h1] at h2
  obtain ⟨i, hi⟩ := Option.isSome_iff_exists.mp h2.symm
  have h3 := h.lowS x
  rw [hi] at h3
  obtain ⟨l, hl⟩ := Option.isSome_iff_exists.mp h3
  exact ⟨i, l, hi, hl, h.lowLe x i l hi hl, h.lowGe x hx l hl⟩
theorem PInv.opnN (h : PInv names G r0 S) : S.opn.Nodup := h.opnP.imp fun {x y} ⟨i, j, a, b, (c : (i : Nat) < j)⟩ q => by rw [q, b] at a; cases a; exact Nat.lt_irrefl _ c
/-- entering a name that has no number -/
theorem PInv.enterI (h : PInv names G r0 S) (hn : names.Nodup) {o : Str} (ho : o ∈ names) (hnum : S.num o = none) (stk : List (Str × Nat)) (r1 : Nat) (hr : r1 ≤ S.cnt)
    (hr1 : ∀ x ∈ S.opn, ∀ l : Nat, S.low x = some l → r1 ≤ l)
    (stkI : ∀ p ∈ stk, p.1 ∈ S.opn ∧ p.2 ≤ (G p.1).length)
    (stkP : stk.Pairwise (fun p q => ∃ i j : Nat, S.num p.1 = some i ∧ S.num q.1 = some j ∧ j < i))
    (bot : ∀ x k, ((o, 0) :: stk).getLast? = some (x, k) → updF S.num o S.cnt x = some r1)
    (edge : ∀ p ∈ stk, ∀ j, j < p.2 → ∀ q, (G p.1)[j]? = some q → q = o ∨ ∃ i l : Nat, S.num q = some i ∧ S.low p.1 = some l ∧ (S.isO q = some true → l ≤ i))
    (acy : ∀ rank : Str → Nat, (∀ x ∈ names, ∀ q ∈ G x, rank q < rank x) → S.opn = (stk.map (·.1)).reverse ∧ (∀ x ∈ S.opn, S.low x = S.num x) ∧ (∀ g ∈ S.fnd, g.length = 1) ∧ ((o, 0) :: stk).Pairwise (fun p q => rank p.1 < rank q.1)) :
    PInv names G r1 (enterP S o ((o, 0) :: stk)) := by
  have ne : ∀ x i, S.num x = some i → x ≠ o := fun x i e q => by rw [q, hnum] at e; cases e
  have hno : o ∉ S.opn := fun q => by obtain ⟨i, l, a, _⟩ := h.opnNum q; rw [hnum] at a; cases a
  have hiso : S.isO o = none := by have := h.isoS o; rw [hnum] at this; simpa using this
  unfold enterP
  constructor <;> dsimp only
  · intro x i e
    by_cases q : x = o
    · subst q; rw [updF_self] at e; cases e; exact ⟨ho, by omega⟩
    · rw [updF_ne _ _ q] at e; exact ⟨(h.inn x i e).1, by have := (h.inn x i e).2; omega⟩
  · intro x y i e1 e2
    by_cases q : x = o
    · by_cases q2 : y = o
      · rw [q, q2]
      · subst q; rw [updF_self] at e1; cases e1; rw [updF_ne _ _ q2] at e2; have := (h.inn y _ e2).2; omega
    · by_cases q2 : y = o
      · subst q2; rw [updF_self] at e2; cases e2; rw [updF_ne _ _ q] at e1; have := (h.inn x _ e1).2; omega
      · rw [updF_ne _ _ q] at e1; rw [updF_ne _ _ q2] at e2; exact h.inj x y i e1 e2
  · have := filter_upd hn S.num o S.cnt ho hnum
    have := h.cntU
    omega
  · intro x; by_cases q : x = o
    · subst q; simp [updF_self]
    · rw [updF_ne _ _ q, updF_ne _ _ q]; exact h.lowS x
  · intro x; by_cases q : x = o
    · subst q; simp [updF_self]
    · rw [updF_ne _ _ q, updF_ne _ _ q]; exact h.isoS x
  · intro x; rw [List.mem_append, List.mem_singleton]; by_cases q : x = o
    · subst q; simp [updF_self]
    · rw [updF_ne _ _ q]; simp [q, h.opnI x]
  · rw [List.pairwise_append]
    refine ⟨h.opnP.imp fun {a b} ⟨i, j, e1, e2, e3⟩ => ⟨i, j, by rw [updF_ne _ _ (ne a i e1)]; exact e1, by rw [updF_ne _ _ (ne b j e2)]; exact e2, e3⟩, List.pairwise_singleton _ _, fun x hx y hy => ?_⟩
    · rw [List.mem_singleton] at hy; subst hy
      obtain ⟨i, l, e1, _⟩ := h.opnNum hx
      exact ⟨i, S.cnt, by rw [updF_ne _ _ (ne x i e1)]; exact e1, updF_self _ _ _, (h.inn x i e1).2⟩
  · intro p hp
    rcases List.mem_cons.mp hp with rfl | hp
    · exact ⟨by simp, Nat.zero_le _⟩
    · exact ⟨List.mem_append_left _ (stkI p hp).1, (stkI p hp).2⟩
  · rw [List.pairwise_cons]
    refine ⟨fun p hp => ?_, stkP.imp_of_mem fun {a b} _ _ ⟨i, j, e1, e2, e3⟩ => ⟨i, j, by rw [updF_ne _ _ (ne _ i e1)]; exact e1, by rw [updF_ne _ _ (ne _ j e2)]; exact e2, e3⟩⟩
    obtain ⟨i, l, e1, _⟩ := h.opnNum (stkI p hp).1
    exact ⟨S.cnt, i, updF_self _ _ _, by rw [updF_ne _ _ (ne _ i e1)]; exact e1, (h.inn _ i e1).2⟩
  · intro x i l e1 e2
    by_cases q : x = o
    · subst q; rw [updF_self] at e1 e2; cases e1; cases e2; omega
    · rw [updF_ne _ _ q] at e1 e2; exact h.lowLe x i l e1 e2
  · intro x hx l e
    by_cases q : x = o
    · subst q; rw [updF_self] at e; cases e; exact hr
    · rw [updF_ne _ _ q] at e
      rcases List.mem_append.mp hx with hx | hx
      · exact hr1 x hx l e
      · exact absurd (List.mem_singleton.mp hx) q
  · exact bot
  · intro p hp j hj q hq
    rcases List.mem_cons.mp hp with rfl | hp
    · exact absurd hj (Nat.not_lt_zero _)
    · obtain ⟨ip, lp, e1, e2, e3, _⟩ := h.opnNum (stkI p hp).1
      have hpo := ne _ _ e1
      rcases edge p hp j hj q hq with rfl | ⟨i, l, a, b, c⟩
      · exact ⟨S.cnt, lp, updF_self _ _ _, by rw [updF_ne _ _ hpo]; exact e2, fun _ => by have := (h.inn _ _ e1).2; omega⟩
      · have hqo := ne _ _ a
        exact ⟨i, l, by rw [updF_ne _ _ hqo]; exact a, by rw [updF_ne _ _ hpo]; exact b, by rw [updF_ne _ _ hqo]; exact c⟩
  · intro x
    by_cases q : x = o
    · subst q
      rw [updF_self]
      refine ⟨(fun e => by cases e), fun e => ?_⟩
      have := (h.fndI x).mpr e
      rw [hiso] at this; cases this
    · rw [updF_ne _ _ q]; exact h.fndI x
  · exact h.fndN
  · exact h.fndE
  · exact h.fndT
  · intro rank hrk
    obtain ⟨a, b, c, d⟩ := acy rank hrk
    refine ⟨by rw [a]; simp, fun x hx => ?_, c, d⟩
    by_cases q : x = o
    · subst q; rw [updF_self, updF_self]
    · rw [updF_ne _ _ q, updF_ne _ _ q]
      rcases List.mem_append.mp hx with hx | hx
      · exact b x hx
      · exact absurd (List.mem_singleton.mp hx) q
  · intro e; cases e
/-- a step along an edge to a name that has a number -/
theorem PInv.oldI (h : PInv names G r0 S) (hc : ∀ x ∈ names, ∀ o ∈ G x, o ∈ names) {x : Str} {at' : Nat} {rest : List (Str × Nat)} {o : Str} (hs : S.stk = (x, at') :: rest) (ho : (G x)[at']? = some o) {a b : Nat} (ha : S.low x = some a) (hb : S.num o = some b) (l' : Nat)
    (hl : (S.isO o = some true ∧ l' = if b < a then b else a) ∨ (S.isO o = some false ∧ l' = a)) : PInv names G r0 (lowP S x l' ((x, at' + 1) :: rest)) := by
  have hle : l' ≤ a := by rcases hl with ⟨_, e⟩ | ⟨_, e⟩ <;> rw [e] <;> (try split) <;> omega
  have hx := h.stkI (x, at') (by rw [hs]; exact .head _)
  obtain ⟨ix, lx, n1, n2, n3, n4⟩ := h.opnNum hx.1
  rw [ha] at n2; cases n2
  have hlt : at' < (G x).length := (List.getElem?_eq_some_iff.mp ho).1
  have hge : r0 ≤ l' := by
    rcases hl with ⟨hi, e⟩ | ⟨_, e⟩
    · obtain ⟨i, l, e1, e2, e3, e4⟩ := h.opnNum ((h.opnI o).mpr hi)
      rw [hb] at e1; cases e1
      rw [e]; split <;> omega
    · omega
  unfold lowP
  constructor <;> dsimp only
  · exact h.inn
  · exact h.inj
  · exact h.cntU
  · intro y; by_cases q : y = x
    · subst q; rw [updF_self, n1]; rfl
    · rw [updF_ne _ _ q]; exact h.lowS y
  · exact h.isoS
  · exact h.opnI
  · exact h.opnP
  · intro p hp
    rcases List.mem_cons.mp hp with rfl | hp
    · exact ⟨hx.1, hlt⟩
    · exact h.stkI p (by rw [hs]; exact .tail _ hp)
  · have := h.stkP
    rw [hs] at this
    rw [List.pairwise_cons] at this ⊢
    exact this
  · intro y i l e1 e2
    by_cases q : y = x
    · subst q; rw [updF_self] at e2; cases e2; rw [n1] at e1; cases e1; omega
    · rw [updF_ne _ _ q] at e2; exact h.lowLe y i l e1 e2
  · intro y hy l e
    by_cases q : y = x
    · subst q; rw [updF_self] at e; cases e; exact hge
    · rw [updF_ne _ _ q] at e; exact h.lowGe y hy l e
  · intro y k e
    have hb := h.bot
    rw [hs] at hb
    cases rest with
    | nil => simp at e; rw [← e.1]; exact hb x at' (by simp)
    | cons z zs => rw [List.getLast?_cons_cons] at e hb; exact hb y k e
  · intro p hp j hj q hq
    rcases List.mem_cons.mp hp with rfl | hp
    · dsimp only at hj hq ⊢
      rw [updF_self]
      rcases Nat.lt_or_ge j at' with k | k
      · obtain ⟨i, l, e1, e2, e3⟩ := h.edge (x, at') (by rw [hs]; exact .head _) j k q hq
        rw [ha] at e2; cases e2
        exact ⟨i, l', e1, rfl, fun z => Nat.le_trans hle (e3 z)⟩
      · have : j = at' := by omega
        subst this
        rw [ho] at hq; cases hq
        refine ⟨b, l', hb, rfl, fun z => ?_⟩
        rcases hl with ⟨_, e⟩ | ⟨e, _⟩
        · rw [e]; split <;> omega
        · rw [e] at z; cases z
    · obtain ⟨i, l, e1, e2, e3⟩ := h.edge p (by rw [hs]; exact .tail _ hp) j hj q hq
      by_cases k : p.1 = x
      · rw [k, updF_self]; rw [k, ha] at e2; cases e2
        exact ⟨i, l', e1, rfl, fun z => Nat.le_trans hle (e3 z)⟩
      · rw [updF_ne _ _ k]; exact ⟨i, l, e1, e2, e3⟩
  · exact h.fndI
  · exact h.fndN
  · exact h.fndE
  · exact h.fndT
  · intro rank hrk
    obtain ⟨c1, c2, c3, c4⟩ := h.acy rank hrk
    rw [hs] at c1 c4
    refine ⟨c1, fun y hy => ?_, c3, by rw [List.pairwise_cons] at c4 ⊢; exact c4⟩
    by_cases q : y = x
    · subst q
      rw [updF_self, ← c2 y hy, ha]
      rcases hl with ⟨hi, e⟩ | ⟨_, e⟩
      · exfalso
        have h1 : o ∈ S.opn := (h.opnI o).mpr hi
        have h2 := hrk y (h.inn _ _ n1).1 o (List.mem_of_getElem? ho)
        rw [c1] at h1
        simp only [List.map_cons, List.reverse_cons, List.mem_append, List.mem_reverse, List.mem_singleton, List.mem_map] at h1
        rw [List.pairwise_cons] at c4
        rcases h1 with ⟨p, hp, rfl⟩ | rfl
        · have := c4.1 p hp; dsimp only at this; omega
        · omega
      · rw [e]
    · rw [updF_ne _ _ q]; exact c2 y hy
  · intro e; cases e
/-- a name is done and stays open -/
theorem PInv.stayI (h : PInv names G r0 S) {x y : Str} {ax ay : Nat} {rest : List (Str × Nat)} (hs : S.stk = (x, ax) :: (y, ay) :: rest) {a b c : Nat} (ha : S.low x = some a) (hb : S.num x = some b) (hc : S.low y = some c) (hab : a ≠ b) (l' : Nat) (hl : l' = if a < c then a else c) :
    PInv names G r0 (lowP S y l' ((y, ay) :: rest)) := by
  have hle : l' ≤ c := by rw [hl]; split <;> omega
  have hx := h.stkI (x, ax) (by rw [hs]; exact .head _)
  have hy := h.stkI (y, ay) (by rw [hs]; exact .tail _ (.head _))
  obtain ⟨ix, lx, n1, n2, n3, n4⟩ := h.opnNum hx.1
  rw [ha] at n2; cases n2
  obtain ⟨iy, ly, m1, m2, m3, m4⟩ := h.opnNum hy.1
  rw [hc] at m2; cases m2
  have hge : r0 ≤ l' := by rw [hl]; split <;> omega
  unfold lowP
  constructor <;> dsimp only
  · exact h.inn
  · exact h.inj
  · exact h.cntU
  · intro z; by_cases q : z = y
    · subst q; rw [updF_self, m1]; rfl
    · rw [updF_ne _ _ q]; exact h.lowS z
  · exact h.isoS
  · exact h.opnI
  · exact h.opnP
  · intro p hp
    exact h.stkI p (by rw [hs]; exact .tail _ hp)
  · have := h.stkP
    rw [hs, List.pairwise_cons] at this
    exact this.2
  · intro z i l e1 e2
    by_cases q : z = y
    · subst q; rw [updF_self] at e2; cases e2; rw [m1] at e1; cases e1; omega
    · rw [updF_ne _ _ q] at e2; exact h.lowLe z i l e1 e2
  · intro z hz l e
    by_cases q : z = y
    · subst q; rw [updF_self] at e; cases e; exact hge
    · rw [updF_ne _ _ q] at e; exact h.lowGe z hz l e
  · intro z k e
    have hb := h.bot
    rw [hs, List.getLast?_cons_cons] at hb
    exact hb z k e
  · intro p hp j hj q hq
    obtain ⟨i, l, e1, e2, e3⟩ := h.edge p (by rw [hs]; exact .tail _ hp) j hj q hq
    by_cases k : p.1 = y
    · rw [k, updF_self]; rw [k, hc] at e2; cases e2
      exact ⟨i, l', e1, rfl, fun z => Nat.le_trans hle (e3 z)⟩
    · rw [updF_ne _ _ k]; exact ⟨i, l, e1, e2, e3⟩
  · exact h.fndI
  · exact h.fndN
  · exact h.fndE
  · exact h.fndT
  · intro rank hrk
    obtain ⟨c1, c2, c3, c4⟩ := h.acy rank hrk
    have := c2 x hx.1
    rw [ha, hb] at this; cases this
    exact absurd rfl hab
  · intro e; cases e
/-- a name is done and its group is told -/
theorem PInv.popI (h : PInv names G r0 S) {x : Str} {ax : Nat} {rest : List (Str × Nat)} (hs : S.stk = (x, ax) :: rest) (hax : ax = (G x).length) {a : Nat} (ha : S.low x = some a) (hb : S.num x = some a) {pre post : List Str} (ho : S.opn = pre ++ x :: post) :
    PInv names G r0 (popP S pre (x :: post) rest) := by
  have hx := h.stkI (x, ax) (by rw [hs]; exact .head _)
  have hP := h.opnP
  have hN := h.opnN
  rw [ho] at hP hN
  rw [List.pairwise_append, List.pairwise_cons] at hP
  rw [List.nodup_append, List.nodup_cons] at hN
  obtain ⟨p1, ⟨p2, p3⟩, p4⟩ := hP
  obtain ⟨k1, ⟨k2, k3⟩, k4⟩ := hN
  have later : ∀ y ∈ x :: post, ∀ i, S.num y = some i → a ≤ i := fun y hy i e => by
    rcases List.mem_cons.mp hy with rfl | hy
    · rw [hb] at e; cases e; exact Nat.le_refl _
    · obtain ⟨i', j', e1, e2, e3⟩ := p2 y hy
      rw [hb] at e1; cases e1; rw [e] at e2; cases e2; exact Nat.le_of_lt e3
  have inPre : ∀ p ∈ rest, p.1 ∈ pre ∧ ∃ i, S.num p.1 = some i ∧ i < a := fun p hp => by
    have h1 := h.stkP
    rw [hs, List.pairwise_cons] at h1
    obtain ⟨i, j, e1, e2, e3⟩ := h1.1 p hp
    rw [hb] at e1; cases e1
    have h2 := (h.stkI p (by rw [hs]; exact .tail _ hp)).1
    rw [ho] at h2
    refine ⟨(List.mem_append.mp h2).resolve_right fun q => ?_, j, e2, e3⟩
    have := later _ q _ e2
    omega
  have hgN : (x :: post).Nodup := List.nodup_cons.mpr ⟨k2, k3⟩
  have hgO : ∀ y ∈ x :: post, S.isO y = some true := fun y hy => (h.opnI y).mp (by rw [ho]; exact List.mem_append_right _ hy)
  unfold popP
  constructor <;> dsimp only
  · exact h.inn
  · exact h.inj
  · exact h.cntU
  · exact h.lowS
  · intro y
    unfold offF
    split
    · rename_i q; have := h.isoS y; rw [hgO y q] at this; rw [← this]; rfl
    · exact h.isoS y
  · intro y
    unfold offF
    split
    · rename_i q
      refine ⟨fun e => ?_, fun e => by cases e⟩
      exact absurd rfl (k4 y e y q)
    · rename_i q
      rw [← h.opnI y, ho, List.mem_append]
      exact ⟨.inl, fun e => e.resolve_right q⟩
  · exact p1
  · intro p hp
    exact ⟨(inPre p hp).1, (h.stkI p (by rw [hs]; exact .tail _ hp)).2⟩
  · have := h.stkP
    rw [hs, List.pairwise_cons] at this
    exact this.2
  · exact h.lowLe
  · intro y hy l e
    exact h.lowGe y (by rw [ho]; exact List.mem_append_left _ hy) l e
  · intro y k e
    have hbt := h.bot
    rw [hs] at hbt
    cases rest with
    | nil => cases e
    | cons z zs => rw [List.getLast?_cons_cons] at hbt; exact hbt y k e
  · intro p hp j hj q hq
    obtain ⟨i, l, e1, e2, e3⟩ := h.edge p (by rw [hs]; exact .tail _ hp) j hj q hq
    refine ⟨i, l, e1, e2, fun z => e3 ?_⟩
    unfold offF at z
    split at z
    · cases z
    · exact z
  · intro y
    unfold offF
    split
    · rename_i q
      exact ⟨fun _ => ⟨_, List.mem_append_right _ (.head _), List.mem_reverse.mpr q⟩, fun _ => rfl⟩
    · rename_i q
      rw [h.fndI y]
      constructor
      · rintro ⟨g, hg, hy⟩; exact ⟨g, List.mem_append_left _ hg, hy⟩
      · rintro ⟨g, hg, hy⟩
        rcases List.mem_append.mp hg with hg | hg
        · exact ⟨g, hg, hy⟩
        · rw [List.mem_singleton.mp hg] at hy; exact absurd (List.mem_reverse.mp hy) q
  · rw [List.flatten_append, List.nodup_append]
    refine ⟨h.fndN, by rw [List.flatten_cons, List.flatten_nil, List.append_nil]; exact List.pairwise_reverse.mpr (hgN.imp fun q => Ne.symm q), fun y hy z hz e => ?_⟩
    subst e
    obtain ⟨g, hg, hyg⟩ := List.mem_flatten.mp hy
    have h1 := (h.fndI y).mpr ⟨g, hg, hyg⟩
    have h2 := hgO y (by rw [List.flatten_cons, List.flatten_nil, List.append_nil] at hz; exact List.mem_reverse.mp hz)
    rw [h1] at h2; cases h2
  · intro g hg
    rcases List.mem_append.mp hg with hg | hg
    · exact h.fndE g hg
    · rw [List.mem_singleton.mp hg]; simp
  · intro i v e o hov
    rcases Nat.lt_or_ge i S.fnd.length with q | q
    · rw [List.getElem?_append_left q] at e
      rcases h.fndT i v e o hov with z | ⟨j, g, z1, z2, z3⟩
      · exact .inl z
      · exact .inr ⟨j, g, z1, by rw [List.getElem?_append_left (by omega)]; exact z2, z3⟩
    · rw [List.getElem?_append_right q] at e
      have hi : i = S.fnd.length := by
        rcases Nat.eq_zero_or_pos (i - S.fnd.length) with z | z
        · omega
        · rw [List.getElem?_eq_none (by simp; omega)] at e; cases e
      subst hi
      rw [Nat.sub_self] at e
      have e' : (x :: post).reverse = [v] := by simpa using e
      have e2 : x :: post = [v] := by have := congrArg List.reverse e'; simpa using this
      cases e2
      obtain ⟨j, hj⟩ := List.getElem?_of_mem hov
      have hjl : j < ax := by rw [hax]; exact (List.getElem?_eq_some_iff.mp hj).1
      obtain ⟨io, lo, f1, f2, f3⟩ := h.edge (x, ax) (by rw [hs]; exact .head _) j hjl o hj
      rw [ha] at f2; cases f2
      have f4 := h.isoS o
      rw [f1] at f4
      obtain ⟨b, hbo⟩ := Option.isSome_iff_exists.mp f4
      cases b with
      | false =>
        obtain ⟨g, hg, hog⟩ := (h.fndI o).mp hbo
        obtain ⟨j', hj'⟩ := List.getElem?_of_mem hg
        have hlt := (List.getElem?_eq_some_iff.mp hj').1
        exact .inr ⟨j', g, hlt, by rw [List.getElem?_append_left hlt]; exact hj', hog⟩
      | true =>
        have hoo := (h.opnI o).mpr hbo
        rw [ho] at hoo
        rcases List.mem_append.mp hoo with z | z
        · obtain ⟨i', j', g1, g2, g3⟩ := p4 o z x (.head _)
          rw [f1] at g1; cases g1; rw [hb] at g2; cases g2
          have := f3 hbo
          omega
        · exact .inl (List.mem_singleton.mp z)
  · intro rank hrk
    obtain ⟨c1, c2, c3, c4⟩ := h.acy rank hrk
    rw [hs] at c1 c4
    rw [ho] at c1
    simp only [List.map_cons, List.reverse_cons] at c1
    have hpost : post = [] ∧ pre = (rest.map (·.1)).reverse := by
      rcases List.eq_nil_or_concat post with z | ⟨z, u, rfl⟩
      · subst z
        exact ⟨rfl, (List.append_inj' c1 rfl).1⟩
      · exfalso
        rw [List.concat_eq_append] at c1 k2
        rw [show pre ++ x :: (z ++ [u]) = (pre ++ x :: z) ++ [u] by simp] at c1
        have := (List.append_inj' c1 rfl).2
        cases this
        exact k2 (by simp)
    obtain ⟨e1, e2⟩ := hpost
    subst e1
    refine ⟨e2, fun y hy => c2 y (by rw [ho]; exact List.mem_append_left _ hy), fun g hg => ?_, by rw [List.pairwise_cons] at c4; exact c4.2⟩
    rcases List.mem_append.mp hg with hg | hg
    · exact c3 g hg
    · rw [List.mem_singleton.mp hg]; rfl
  · intro e
    subst e
    have hr := h.bot x ax (by rw [hs]; rfl)
    rw [hb] at hr; cases hr
    apply List.eq_nil_iff_forall_not_mem.mpr
    intro y hy
    obtain ⟨i', j', g1, g2, g3⟩ := p4 y hy x (.head _)
    rw [hb] at g2; cases g2
    obtain ⟨i, l, m1, m2, m3, m4⟩ := h.opnNum (x := y) (by rw [ho]; exact List.mem_append_left _ hy)
    rw [g1] at m1; cases m1
    omega
/-- a step along an edge to a name that has no number -/
theorem PInv.newI (h : PInv names G r0 S) (hn : names.Nodup) (hc : ∀ x ∈ names, ∀ o ∈ G x, o ∈ names) {x : Str} {at' : Nat} {rest : List (Str × Nat)} {o : Str} (hs : S.stk = (x, at') :: rest) (ho : (G x)[at']? = some o) (hnum : S.num o = none) :
    PInv names G r0 (enterP S o ((o, 0) :: (x, at' + 1) :: rest)) := by
  have hx := h.stkI (x, at') (by rw [hs]; exact .head _)
  obtain ⟨ix, lx, n1, n2, n3, n4⟩ := h.opnNum hx.1
  have hlt : at' < (G x).length := (List.getElem?_eq_some_iff.mp ho).1
  have hxn := (h.inn _ _ n1).1
  have hP := h.stkP
  have hB := h.bot
  rw [hs] at hP hB
  refine h.enterI hn (hc x hxn o (List.mem_of_getElem? ho)) hnum _ r0 (by have := (h.inn _ _ n1).2; omega) h.lowGe ?_ ?_ ?_ ?_ ?_
  · intro p hp
    rcases List.mem_cons.mp hp with rfl | hp
    · exact ⟨hx.1, hlt⟩
    · exact h.stkI p (by rw [hs]; exact .tail _ hp)
  · rw [List.pairwise_cons] at hP ⊢; exact hP
  · intro y k e
    rw [List.getLast?_cons_cons] at e
    have hy : S.num y = some r0 := by
      cases rest with
      | nil => simp at e; rw [← e.1]; exact hB x at' (by simp)
      | cons z zs => rw [List.getLast?_cons_cons] at e hB; exact hB y k e
    rw [updF_ne _ _ (fun q : y = o => by rw [q, hnum] at hy; cases hy)]; exact hy
  · intro p hp j hj q hq
    rcases List.mem_cons.mp hp with rfl | hp
    · dsimp only at hj hq ⊢
      rcases Nat.lt_or_ge j at' with k | k
      · exact .inr (h.edge (x, at') (by rw [hs]; exact .head _) j k q hq)
      · have : j = at' := by omega
        subst this
        rw [ho] at hq; cases hq
        exact .inl rfl
    · exact .inr (h.edge p (by rw [hs]; exact .tail _ hp) j hj q hq)
  · intro rank hrk
    obtain ⟨c1, c2, c3, c4⟩ := h.acy rank hrk
    rw [hs] at c1 c4
    refine ⟨c1, c2, c3, ?_⟩
    have := hrk x hxn o (List.mem_of_getElem? ho)
    rw [List.pairwise_cons] at c4
    rw [List.pairwise_cons, List.pairwise_cons]
    refine ⟨fun p hp => ?_, c4⟩
    rcases List.mem_cons.mp hp with rfl | hp
    · exact this
    · exact Nat.lt_trans this (c4.1 p hp)
/-- a walk begins -/
theorem PInv.rootI (h : PInv names G r0 S) (hn : names.Nodup) {o : Str} (hs : S.stk = []) (ho : o ∈ names) (hnum : S.num o = none) : PInv names G S.cnt (enterP S o [(o, 0)]) := by
  have hop := h.nil hs
  refine h.enterI hn ho hnum [] S.cnt (Nat.le_refl _) ?_ ?_ ?_ ?_ ?_ ?_
  · rw [hop]; intro x hx; cases hx
  · intro p hp; cases hp
  · exact .nil
  · intro x k e; cases e; exact updF_self _ _ _
  · intro p hp; cases hp
  · intro rank hrk
    obtain ⟨c1, c2, c3, c4⟩ := h.acy rank hrk
    exact ⟨by rw [hop]; rfl, c2, c3, List.pairwise_singleton _ _⟩
/-- where a name lies on the open list -/
theorem PInv.split (h : PInv names G r0 S) {x : Str} (hx : x ∈ S.opn) : ∃ pre post, S.opn = pre ++ x :: post ∧ x ∉ post := by
  obtain ⟨pre, post, e⟩ := List.append_of_mem hx
  have hN := h.opnN
  rw [e, List.nodup_append, List.nodup_cons] at hN
  exact ⟨pre, post, e, hN.2.1.1⟩
/-- the root's group is told -/
theorem PInv.rootEq (h : PInv names G r0 S) {x : Str} {ax : Nat} (hs : S.stk = [(x, ax)]) {a b : Nat} (ha : S.low x = some a) (hb : S.num x = some b) : a = b := by
  have h1 := h.bot x ax (by rw [hs]; rfl)
  rw [hb] at h1
  have h1' := Option.some.inj h1
  have h2 := h.lowLe x b a hb ha
  have h3 := h.lowGe x (h.stkI (x, ax) (by rw [hs]; exact .head _)).1 a ha
  omega
def tInit : TS := ⟨fun _ => none, 0, fun _ => none, [], fun _ => none, [], []⟩
theorem PInv.init : PInv names G 0 tInit := by
  unfold tInit
  constructor <;> simp
/-- how much is left of a walk -/
def left (names : List Str) (G : Str → List Str) (K : Nat) (S : TS) : Nat := (names.filter fun x => (S.num x).isNone).length * (K + 2) + (S.stk.map fun p => (G p.1).length - p.2 + 1).sum
theorem left_new (h : PInv names G r0 S) (hn : names.Nodup) (hc : ∀ x ∈ names, ∀ o ∈ G x, o ∈ names) {K : Nat} (hK : ∀ x ∈ names, (G x).length ≤ K) {x : Str} {at' : Nat} {rest : List (Str × Nat)} {o : Str} (hs : S.stk = (x, at') :: rest) (ho : (G x)[at']? = some o) (hnum : S.num o = none) :
    left names G K (enterP S o ((o, 0) :: (x, at' + 1) :: rest)) < left names G K S := by
  obtain ⟨ix, lx, n1, n2, n3, n4⟩ := h.opnNum (h.stkI (x, at') (by rw [hs]; exact .head _)).1
  have hlt : at' < (G x).length := (List.getElem?_eq_some_iff.mp ho).1
  have hon := hc x (h.inn _ _ n1).1 o (List.mem_of_getElem? ho)
  have h1 := filter_upd hn S.num o S.cnt hon hnum
  have h2 := hK o hon
  unfold left enterP
  rw [hs, ← h1]
  simp only [List.map_cons, List.sum_cons, Nat.add_mul]
  omega
theorem left_old {K : Nat} {x : Str} {at' l' : Nat} {rest : List (Str × Nat)} {o : Str} (hs : S.stk = (x, at') :: rest) (ho : (G x)[at']? = some o) : left names G K (lowP S x l' ((x, at' + 1) :: rest)) < left names G K S := by
  have hlt : at' < (G x).length := (List.getElem?_eq_some_iff.mp ho).1
  unfold left lowP
  rw [hs]
  simp only [List.map_cons, List.sum_cons]
  omega
theorem left_stay {K : Nat} {x y : Str} {at' l' : Nat} {rest : List (Str × Nat)} (hs : S.stk = (x, at') :: rest) : left names G K (lowP S y l' rest) < left names G K S := by
  unfold left lowP
  rw [hs]
  simp only [List.map_cons, List.sum_cons]
  omega
theorem left_pop {K : Nat} {x : Str} {at' : Nat} {pre g : List Str} {rest : List (Str × Nat)} (hs : S.stk = (x, at') :: rest) : left names G K (popP S pre g rest) < left names G K S := by
  unfold left popP
  rw [hs]
  simp only [List.map_cons, List.sum_cons]
  omega
end
end
section
/-- where each name stands -/
def placeF (xs : List Str) : Str → Option Nat := fun y => if y ∈ xs then some (xs.idxOf y) else none
theorem placeF_nil : placeF [] = fun _ => none := by funext y; simp [placeF]
theorem placeF_snoc {xs : List Str} {x : Str} (h : x ∉ xs) : placeF (xs ++ [x]) = updF (placeF xs) x xs.length := by
  funext y
  show (if y ∈ xs ++ [x] then some ((xs ++ [x]).idxOf y) else none) = if y = x then some xs.length else if y ∈ xs then some (xs.idxOf y) else none
  rw [List.idxOf_append]
  by_cases q : y = x
  · subst q
    rw [if_pos (by simp), if_pos rfl, if_neg h]; simp
  · rw [if_neg q]
    by_cases k : y ∈ xs
    · rw [if_pos (by simp [k]), if_pos k, if_pos k]
    · rw [if_neg (by simp [k, q]), if_neg k]
theorem take_nodup {xs : List Str} (h : xs.Nodup) {i : Nat} {x : Str} (hx : xs[i]? = some x) : x ∉ xs.take i := by
  have h1 := List.getElem?_eq_some_iff.mp hx
  obtain ⟨hlt, he⟩ := h1
  rw [← List.take_append_drop i xs, List.nodup_append] at h
  intro q
  refine h.2.2 x q x ?_ rfl
  rw [List.drop_eq_getElem_cons hlt, he]; exact .head _
theorem placeF_step {xs : List Str} (h : xs.Nodup) {i : Nat} {x : Str} (hx : xs[i]? = some x) : placeF (xs.take (i + 1)) = updF (placeF (xs.take i)) x i := by
  have hlt := (List.getElem?_eq_some_iff.mp hx).1
  rw [take_snoc hx, placeF_snoc (take_nodup h hx), List.length_take, Nat.min_eq_left (by omega)]
/-- what each of some names is given -/
def onlyF {β : Type} (xs : List Str) (f : Str → β) : Str → Option β := fun y => if y ∈ xs then some (f y) else none
theorem onlyF_nil {β : Type} (f : Str → β) : onlyF [] f = fun _ => none := by funext y; simp [onlyF]
theorem onlyF_step {β : Type} {xs : List Str} (f : Str → β) {i : Nat} {x : Str} (hx : xs[i]? = some x) : onlyF (xs.take (i + 1)) f = updF (onlyF (xs.take i) f) x (f x) := by
  rw [take_snoc hx]
  funext y
  unfold onlyF updF
  by_cases q : y = x
  · subst q; simp
  · simp [q]
theorem stored_len_new {kvs : List (Str × Value)} {k : Str} {v : Value} (h : valueAt kvs k = none) : (stored kvs k v).length = kvs.length + 1 := by rw [stored_new h]; simp
theorem setM1 (M : Str → Option Value) (a : Str) (u v : Option Value) : (fun y => if y = a then v else (fun y => if y = a then u else M y) y) = fun y => if y = a then v else M y := by
  funext y
  by_cases h : y = a <;> simp [h]
theorem stored_le (kvs : List (Str × Value)) (k : Str) (v : Value) : (stored kvs k v).length ≤ kvs.length + 1 := by
  unfold stored; split <;> simp
end
section
theorem push2_upd {hp : Heap} {o1 o2 : Obj} {f : Obj → Obj} (hf : o2.isFreed = false) (hf' : (f o2).isFreed = false) :
    (∀ b o, hp.get? b = some o → (((hp.push o1).push o2).update (hp.push o1).objs.size f).get? b = some o) ∧ (((hp.push o1).push o2).update (hp.push o1).objs.size f).get? (hp.push o1).objs.size = some (f o2) := by
  refine ⟨fun b o e => ?_, Heap.get?_update_self _ (Heap.get?_push_size _ hf) hf'⟩
  have e1 := Heap.get?_push_of_some o1 e
  exact (Heap.get?_update_ne _ _ _ _ (Nat.ne_of_lt (Heap.lt_size e1))).trans (Heap.get?_push_of_some _ e1)
theorem held_new {A : Around} {h h' : Heap} {a : Addr} (H : HOk A.handled h) (k : ∀ b o, h.get? b = some o → h'.get? b = some o) (ha : h.objs.size ≤ a) : HOk A.handled h' ∧ ∀ e, A.handled = some (.ref e) → e ≠ a :=
  ⟨H.keeps k, H.ne_new (Heap.get?_none_of_le ha)⟩
section
variable {α : Type} {pg : Program} {w : World} {A : Around} {E : Value → Shared → Prop} {s : Shared}
theorem attrErr_held {o : Value} {name msg : Str} {Q : α → Shared → Prop} (hh : HOk A.handled s.heap) (hm : msg.length ≤ sizeLine)
    (h : ∀ h' tk e, (∀ b ob, s.heap.get? b = some ob → h'.get? b = some ob) → (∃ oe, h'.get? e = some oe ∧ oe.cls = .type "AttributeError") → E (.ref e) { s with heap := h', toks := tk }) :
    wpAny (model pg w) A (raiseAttrError o name msg : Sem α) Q E s := by
  unfold raiseAttrError
  refine wpAny_bind (wpAny_mkStr (wpAny_bind ?_) hm)
  unfold newExc newTuple
  refine wpAny_bind (wpAny_newObj_type ?_ (by size_fits))
  refine wpAny_bind (m := firstArgMember _ _) (wpAny_of_eq (a := Value.none) (by simp only [firstArgMember, attrError_no_first]; rfl) ?_)
  rw [ownMembersOf_AttributeError]
  refine wpAny_newObj_type ?_ (by size_fits)
  obtain ⟨hp, g, d, tk, os⟩ := s
  have f1 := sub_AttributeError
  repeat (any_goals (first | assumption | wp_step))
  dsimp only
  generalize ho1 : ({ cls := Value.type "tuple", data := Data.seq #[Value.str msg tk] } : Obj) = o1
  generalize ho2 : ({ cls := Value.type "AttributeError", data := Data.fields (#[Value.ref hp.objs.size, Value.none, Value.none, Value.none, Value.bool false, Value.none] ++ #[unsetMember, unsetMember]) } : Obj) = o2
  have P := push2_upd (hp := hp) (o1 := o1) (o2 := o2) (f := Obj.mapFields fun vs => vs.extract 0 6 ++ #[Value.str name (tk + 1), o]) (by rw [← ho2]; rfl) (by rw [← ho2]; rfl)
  have H := held_new (A := A) (a := (hp.push o1).objs.size) hh P.1 (by rw [Heap.size_push]; exact Nat.le_succ _)
  refine raiseNew_held H.1 H.2 P.2 (by rw [← ho2]; rfl) (by simp) fun h' hs' ho' => h h' _ _ (fun b ob e => ?_) ?_
  · have e1 : b < hp.objs.size := Heap.lt_size e
    exact (hs'.2 b (by rw [Heap.size_push]; exact Nat.ne_of_lt (Nat.lt_succ_of_lt e1))).trans (P.1 _ _ e)
  · obtain ⟨oe, h1, h2⟩ := ho'
    exact ⟨oe, h1, h2.trans (by rw [← ho2]; rfl)⟩
end
theorem keys_miss : typeLookup (.type "list") (Str.ofString "keys") = pure none := am_miss_of_fast (by decide +kernel)
theorem miss_held (a : Addr) (xs : Array Value) (k : Nat) (sl : Array (Option Value)) (u : Tok) :
    Meets (Builtin.«object.__getattribute__» ⟨[.ref a, .str (Str.ofString "keys") u], []⟩) (fun A R s => s.heap.get? a = some { cls := .type "list", dict := none, data := .seq xs k, slots := sl } ∧ HOk A.handled s.heap ∧
      ∀ h' tk e, (∀ b ob, s.heap.get? b = some ob → h'.get? b = some ob) → (∃ oe, h'.get? e = some oe ∧ oe.cls = .type "AttributeError") → R (.error (.ref e)) { s with heap := h', toks := tk }) :=
  Meets.of_wp fun prog w A R s hs => by
    obtain ⟨hp, g, d, tk, os⟩ := s
    obtain ⟨hx, hh, hs⟩ := hs
    have hT : (⟨hp, g, d, tk, os⟩ : Shared).TypeIs (.ref a) "list" := ⟨_, hx, rfl⟩
    have hmiss := keys_miss
    unfold Builtin.«object.__getattribute__»
    repeat (any_goals (first | assumption | wp_step))
    exact attrErr_held hh (attrMsg_fits (by decide +kernel) (by rw [sizeLine_eq]; decide +kernel)) hs
section
variable {α : Type} {pg : Program} {w : World} {A : Around} {E : Value → Shared → Prop} {s : Shared}
theorem noKeys {a : Addr} {xs : Array Value} {k : Nat} {sl : Array (Option Value)} {Q : Option Value → Shared → Prop} (hx : s.heap.get? a = some { cls := .type "list", dict := none, data := .seq xs k, slots := sl }) (hh : HOk A.handled s.heap)
    (h : ∀ h' tk, (∀ b ob, s.heap.get? b = some ob → h'.get? b = some ob) → Q none { s with heap := h', toks := tk }) : wpAny (model pg w) A (getAttr? (.ref a) (Str.ofString "keys")) Q E s := by
  obtain ⟨hp, g, d, tk, os⟩ := s
  have hT : ∀ tk', (⟨hp, g, d, tk', os⟩ : Shared).TypeIs (.ref a) "list" := fun _ => ⟨_, hx, rfl⟩
  have f1 := sub_AttributeError
  have f3 := F.slot_list_getattribute.lookup
  have f4 := F.slot_list_getattribute.bind (.ref a)
  have f5 := am_list_getattr_none
  unfold getAttr? getAttrBy? getAttrBy
  repeat (any_goals (first | assumption | exact hT _ | ((with_reducible show wpAny _ _ (call (Value.builtin "list.__getattribute__") _ _) _ _ _); refine call_meets F.slot_list_getattribute (hT _) am_entry_list_getattribute (F.args_list_getattribute_2 _ _) (miss_held a xs k sl _) ⟨hx, hh, fun h' tk' e hk' he' => ?_⟩) | wp_step))
  obtain ⟨⟨c, dd, dt, sl'⟩, he, hc⟩ := he'
  simp only at hc
  subst hc
  have hTe : ∀ tk, (⟨h', g, d, tk, os⟩ : Shared).TypeIs (.ref e) "AttributeError" := fun _ => ⟨_, he, rfl⟩
  show wpAny _ _ (getattributeRaised _ _ _ _ _ _ _) _ _ _
  unfold getattributeRaised
  repeat (any_goals (first | assumption | exact hTe _ | wp_step))
  exact h _ _ hk'
end
end
section
section
variable {pg : Program} {w : World} {A : Around} {R : Result → Shared → Prop}
theorem entry_updLoop : entryFor table "dict.update.loop" = some Builtin.«dict.update.loop» := entryFor_of_tree (by kernel_rfl)
theorem plain_updLoop : plainId "dict.update.loop" = true := by decide +kernel
theorem quiet_updLoop (a : Args) : (Code.builtin "dict.update.loop" a).quiet = true := Code.quiet_builtin _ (by decide +kernel)
def storeAll (kvs : List (Str × Value)) (prs : List (Str × Value)) : List (Str × Value) := prs.foldl (fun m p => stored m p.1 p.2) kvs
theorem stored_len (kvs : List (Str × Value)) (k : Str) (v : Value) : (stored kvs k v).length ≤ kvs.length + 1 := by
  unfold stored; split <;> simp
theorem dictLoop {it l d : Addr} {vs : List Value} {prs : List (Str × Value)} {hb : Heap} (hl : hb.IsList l vs.toArray) (hli : l ≠ it) (hld : l ≠ d) (hid : it ≠ d) (hH : HOk A.handled hb) (hHi : ∀ e, A.handled = some (.ref e) → e ≠ it ∧ e ≠ d) (hlen : prs.length = vs.length) (hsz : vs.length ≤ 16777216)
    (hp : ∀ (j : Nat) v, vs[j]? = some v → ∃ a k t x, v = Value.ref a ∧ prs[j]? = some (k, x) ∧ hb.get? a = some (tupO [.str k t, x]) ∧ a ≠ it ∧ a ≠ d) :
    ∀ (n i : Nat) (kvs : List (Str × Value)) (s : Shared), n + i = vs.length → s.heap.IsListIter it l i → s.heap.DictOf (PySem.strKind pg w) d kvs → kvs.length ≤ i → (∀ b o, b ≠ it → b ≠ d → hb.get? b = some o → s.heap.get? b = some o) →
      (∀ h' tk, h'.DictOf (PySem.strKind pg w) d (storeAll kvs (prs.drop i)) → (∀ b o, b ≠ it → b ≠ d → hb.get? b = some o → h'.get? b = some o) → R (.ok (.ret .none)) { s with heap := h', toks := tk }) →
      codeAny (model pg w) A (.builtin "dict.update.loop" ⟨[.ref d, .ref it, rawInt i, .none], []⟩) R s
  | n, i, kvs, s, hn, hit, hd, hk, hkeep, kq => by
    have hls : s.heap.IsList l vs.toArray := hl.at fun o e => hkeep l o hli hld e
    have hHs : HOk A.handled s.heap := hH.at fun b hb' o e => by
      rcases hH with z | ⟨e', oe, ws, a, _⟩
      · rw [z] at hb'; cases hb'
      · rw [a] at hb'
        have := List.mem_singleton.mp hb'
        exact hkeep b o (by rw [this]; exact (hHi e' a).1) (by rw [this]; exact (hHi e' a).2) e
    refine codeAny_builtinAt entry_updLoop (wpAt_of_wpAny ?_)
    rw [Around.under_plainId plain_updLoop]
    unfold Builtin.«dict.update.loop»
    show wpAny _ _ (pyNext (.ref it) >>= _) _ _ _
    match n, hn with
    | 0, hn =>
      have hi : i = vs.length := by omega
      refine wpAny_bind (pyNext_list_endH (A := A.in1) hHs (fun e he => (hHi e he).1) hit hls (by simp [hi]) fun h' hx => ?_)
      refine wpAny_bind (m := Builtin.Dict.addKeywords d []) (wpAny_pure (wpAny_pure ?_))
      have hk' : ∀ b o, b ≠ it → s.heap.get? b = some o → h'.get? b = some o := fun b o hb' e => hx b o hb' e
      obtain ⟨od, es, ep, ho, rest⟩ := hd
      refine kq h' s.toks ?_ fun b o h1 h2 e => hk' b o h1 (hkeep b o h1 h2 e)
      rw [show prs.drop i = [] from List.drop_eq_nil_of_le (by omega)]
      exact ⟨od, es, ep, hk' d od (Ne.symm hid) ho, rest⟩
    | n + 1, hn =>
      have hi : i < vs.length := by omega
      obtain ⟨v, hv⟩ : ∃ v, vs[i]? = some v := ⟨vs[i], by simp [hi]⟩
      obtain ⟨a, k, t, x, rfl, hpi, ha, hai, had⟩ := hp i v hv
      refine wpAny_bind (wpAny_pyNext_list_item hit hls (x := .ref a) (by simpa using hv) fun h' hit' hs' => ?_)
      have ha' : h'.get? a = some (tupO [.str k t, x]) := (hs'.2 a hai).trans (hkeep a _ hai had ha)
      have hd' : h'.DictOf (PySem.strKind pg w) d kvs := hd.sameBut hs' (Ne.symm hid)
      dsimp only
      refine wpAny_bind (wpAny_holding (wpAny_bind (wpAny_tryCatch ?_)))
      unfold Builtin.Dict.pairItems
      refine wpAny_bind (wpAny_typeOf ⟨_, ha', rfl⟩ ?_)
      rw [if_pos (by decide)]
      refine wpAny_bind (m := seqItems? (.ref a)) (wpAny_seqItems ha' rfl (wpAny_pure ?_))
      dsimp only [Option.getD]
      refine wpAny_holding (wpAny_dictSet_pairs (hsz := line_small (by omega)) (strKind_is _ _ _ _) hd' fun h₂ hd₂ hs₂ => ?_)
      refine wpAny_pure ⟨quiet_updLoop _, ?_⟩
      have keep2 : ∀ b o, b ≠ it → b ≠ d → hb.get? b = some o → h₂.get? b = some o := fun b o h1 h2 e => (hs₂.2 b h2).trans ((hs'.2 b h1).trans (hkeep b o h1 h2 e))
      refine dictLoop hl hli hld hid hH hHi hlen hsz hp n (i + 1) (stored kvs k x) _ (by omega) (hit'.extBut hs₂.extBut hid) hd₂ (by have := stored_len kvs k x; omega) keep2 fun h'' tk hd'' hk'' => ?_
      refine kq h'' tk ?_ hk''
      have e : prs.drop i = (k, x) :: prs.drop (i + 1) := by
        have hlt : i < prs.length := by omega
        rw [List.drop_eq_getElem_cons hlt]
        have : prs[i] = (k, x) := by rw [List.getElem?_eq_getElem hlt] at hpi; exact Option.some.inj hpi
        rw [this]
      rw [e]; exact hd''
end
section
variable {pg : Program} {w : World} {A : Around} {E : Value → Shared → Prop} {s : Shared} {h₀ : Heap} {L l : Addr} {m : Str → Option Value} {news : Led} {vs : List Value} {n : Nat}
theorem dictPairs {prs : List (Str × Value)} {Q : Value → Shared → Prop} (F : Fr h₀ L s.heap m) (N : News h₀ L s.heap news) (hbig : h₀.NoLimit) (hH : HOk A.handled h₀) (hm : (l, listO vs n) ∈ news) (hlen : prs.length = vs.length) (hsz : vs.length ≤ 16777216)
    (hp : ∀ (j : Nat) v, vs[j]? = some v → ∃ a k t x, v = Value.ref a ∧ prs[j]? = some (k, x) ∧ (a, tupO [.str k t, x]) ∈ news)
    (h : ∀ D o h' tk, Fr h₀ L h' m → News h₀ L h' ((D, o) :: news) → (∀ p ∈ news, p.1 < D) → (D == sysModules) = false → o.IsDictOf (PySem.strKind pg w) (storeAll [] prs) → Q (.ref D) { s with heap := h', toks := tk }) :
    wpAny (model pg w) A (call (.type "dict") [.ref l]) Q E s := by
  have hlo := F.notModules (modules_low hbig)
  refine callType_codes (Q₁ := fun obj s₁ => obj = .ref s.heap.objs.size ∧ s₁ = { s with heap := s.heap.push { cls := .type "dict", data := .dict #[] } }) PySem.F.kt_called_dict (PySem.F.kt_typeCall_dict_1 _) PySem.F.entry_dict_init (kt_code_dict_new _ ⟨rfl, rfl⟩) ?_
  rintro obj s₁ ⟨rfl, rfl⟩
  have hnew : (s.heap.push { cls := .type "dict", data := .dict #[] }).DictOf (PySem.strKind pg w) s.heap.objs.size [] := Heap.DictOf.new s.heap
  refine ⟨hnew.typeIs, PySem.F.args_dict_init_2 _ _, ?_⟩
  have hl : (s.heap.push { cls := .type "dict", data := .dict #[] }).get? l = some (listO vs n) := Heap.get?_push_of_some _ (N _ hm).1
  have hll := Heap.lt_size (N _ hm).1
  have hH1 : HOk A.handled (s.heap.push { cls := .type "dict", data := .dict #[] }) := hH.keeps fun b o e => Heap.get?_push_of_some _ (F.keep b o e)
  unfold Builtin.«dict.__init__»
  refine wpAny_bind ?_
  unfold Builtin.Dict.selfAndRest
  refine wpAny_bind (wpAny_notOrdered_dict hnew.typeIs ?_)
  show wpAny _ _ (pure (s.heap.objs.size, [Value.ref l])) _ _ _
  refine wpAny_pure ?_
  show wpAny _ _ (Builtin.Dict.updateFrom "dict.__init__" s.heap.objs.size (.ref l) [] .none) _ _ _
  unfold Builtin.Dict.updateFrom
  refine wpAny_bind (wpAny_typeOf ⟨_, hl, rfl⟩ ?_)
  rw [if_pos (by decide)]
  refine wpAny_bind (noKeys (A := A.in1.in1) hl hH1 fun h' tk hk => ?_)
  rw [if_pos (show (none : Option Value).isNone = true from rfl)]
  refine wpAny_bind (wpAny_rule (wpAny_bind ?_))
  have hl' := hk _ _ hl
  refine wpAny_pyIter_list (items := vs.toArray) ⟨_, hl', rfl, n, rfl⟩ ?_
  refine wpAny_pure ⟨quiet_updLoop _, ?_⟩
  have hds : s.heap.objs.size < h'.objs.size := Heap.lt_size (hk s.heap.objs.size _ (Heap.get?_push_size _ rfl))
  have old : ∀ b o, s.heap.get? b = some o → (h'.push { cls := .type "list_iterator", data := .fields #[.ref l, .int 0 0] }).get? b = some o := fun b o e => Heap.get?_push_of_some _ (hk b o (Heap.get?_push_of_some _ e))
  refine dictLoop (A := A.in1) (hb := h'.push { cls := .type "list_iterator", data := .fields #[.ref l, .int 0 0] }) (prs := prs) (kvs := []) (n := vs.length) (i := 0) ⟨_, old _ _ (N _ hm).1, rfl, n, rfl⟩ ?_ (Nat.ne_of_lt hll) (Nat.ne_of_gt hds) (hH.keeps fun b o e => old b o (F.keep b o e)) ?_ hlen hsz ?_ (s := _) ?_ ?_ ?_ ?_ ?_ ?_
  · exact Nat.ne_of_lt (Nat.lt_trans hll hds)
  · intro e he
    have hle : e < h₀.objs.size := by
      rcases hH with z | ⟨e', oe, ws, a, b, _⟩
      · rw [show A.handled = some (.ref e) from he] at z; cases z
      · rw [show A.handled = some (.ref e) from he] at a; cases a; exact Heap.lt_size b
    have h1 : e < s.heap.objs.size := Nat.lt_of_lt_of_le hle (Nat.le_of_lt (Nat.lt_of_le_of_lt F.above F.ns.lt))
    exact ⟨Nat.ne_of_lt (Nat.lt_trans h1 hds), Nat.ne_of_lt h1⟩
  · intro j v hv
    obtain ⟨a, k, t, x, e, hpj, ha⟩ := hp j v hv
    have hlt := Heap.lt_size (N _ ha).1
    exact ⟨a, k, t, x, e, hpj, old _ _ (N _ ha).1, Nat.ne_of_lt (Nat.lt_trans hlt hds), Nat.ne_of_lt hlt⟩
  · omega
  · exact ⟨_, Heap.get?_push_size _ rfl, rfl, rfl⟩
  · obtain ⟨od, es, ep, ho, hr⟩ := hnew
    exact ⟨od, es, ep, Heap.get?_push_of_some _ (hk _ _ ho), hr⟩
  · exact Nat.zero_le _
  · exact fun b o _ _ e => e
  · intro h₂ tk₂ hd₂ hk₂
    obtain ⟨od, es, ep, ho, hr⟩ := hd₂
    have keep2 : ∀ b o, s.heap.get? b = some o → h₂.get? b = some o := fun b o e => hk₂ b o (Nat.ne_of_lt (Nat.lt_trans (Heap.lt_size e) hds)) (Nat.ne_of_lt (Heap.lt_size e)) (old b o e)
    refine ⟨rfl, h _ od h₂ tk₂ (F.keeps keep2) (fun p hp => ?_) (fun p hp => Heap.lt_size (N p hp).1) hlo ⟨es, ep, hr⟩⟩
    rcases List.mem_cons.mp hp with rfl | hp
    · exact ⟨ho, Nat.ne_of_gt F.ns.lt, next_is_new F⟩
    · exact ⟨keep2 _ _ (N p hp).1, (N p hp).2⟩
end
theorem storeAll_new : ∀ (prs kvs : List (Str × Value)), ((kvs ++ prs).map (·.1)).Nodup → storeAll kvs prs = kvs ++ prs
  | [], kvs, _ => by simp [storeAll]
  | (k, v) :: r, kvs, h => by
    have hk : ¬ (kvs.any fun kv => decide (kv.1 = k)) = true := by
      intro q
      obtain ⟨p, h1, h2⟩ := List.any_eq_true.mp q
      rw [List.map_append, List.nodup_append] at h
      exact h.2.2 p.1 (List.mem_map_of_mem h1) k (by simp) (of_decide_eq_true h2)
    have e : storeAll kvs ((k, v) :: r) = storeAll (stored kvs k v) r := rfl
    rw [e, stored, if_neg hk, storeAll_new r _ (by rw [List.append_assoc]; exact h), List.append_assoc]; rfl
theorem pairs_of {K : Led} : ∀ {vs : List Value} {rows : List Row}, Each (RowIn K) vs rows → ∃ prs : List (Str × Value), prs.length = vs.length ∧ (∀ (j : Nat) v, vs[j]? = some v → ∃ a k t x, v = Value.ref a ∧ prs[j]? = some (k, x) ∧ (a, tupO [.str k t, x]) ∈ K) ∧
    prs.map (·.1) = rows.map (·.1) ∧ ∀ (i : Nat) p, prs[i]? = some p → ∃ e, rows[i]? = some e ∧ TextsIn K p.2 e.2
  | [], [], _ => ⟨[], rfl, fun j v h => by simp at h, rfl, fun i p h => by simp at h⟩
  | [], _ :: _, h => by cases h.1
  | _ :: _, [], h => by cases h.1
  | v :: vs, r :: rows, h => by
    obtain ⟨x, hx, a, t, l, us, n, e, ha, hl, hs⟩ := h.2 0 v rfl
    cases hx
    obtain ⟨prs, h1, h2, h3, h4⟩ := pairs_of (K := K) (vs := vs) (rows := rows) ⟨by simpa using h.1, fun i u q => h.2 (i + 1) u q⟩
    refine ⟨(r.1, .ref l) :: prs, by simp [h1], fun j u q => ?_, by simp [h3], fun i p q => ?_⟩
    · cases j with
      | zero => simp at q; subst q; exact ⟨a, r.1, t, .ref l, e, rfl, ha⟩
      | succ j => exact h2 j u (by simpa using q)
    · cases i with
      | zero => simp at q; subst q; exact ⟨r, rfl, l, us, n, rfl, hl, hs⟩
      | succ i => exact h4 i p (by simpa using q)
end
section
/-- a dict's object, with its epoch -/
def DAt (pg : Program) (w : World) (o : Obj) (kvs : List (Str × Value)) (ep : Nat) : Prop := ∃ es, o.ExactDict ∧ o.data = .dict es ep ∧ PySem.KeysOf (PySem.strKind pg w) es ∧ Pairs (PySem.strKind pg w) es.toList kvs ∧ (kvs.map (·.1)).Nodup
section
variable {pg : Program} {w : World} {A : Around} {E : Value → Shared → Prop} {s : Shared} {h₀ : Heap} {L d : Addr} {m : Str → Option Value} {news : Led} {o : Obj} {kvs : List (Str × Value)} {ep : Nat}
theorem DAt.of (x : o.IsDictOf (PySem.strKind pg w) kvs) : ∃ ep, DAt pg w o kvs ep := let ⟨es, ep, a, b, r⟩ := x; ⟨ep, es, a, b, r⟩
theorem DAt.dict (x : DAt pg w o kvs ep) : o.IsDictOf (PySem.strKind pg w) kvs := let ⟨es, a, b, r⟩ := x; ⟨es, ep, a, b, r⟩
theorem DAt.at {h : Heap} (x : DAt pg w o kvs ep) (e : h.get? d = some o) : h.DictAt (PySem.strKind pg w) d kvs ep := let ⟨es, r⟩ := x; ⟨o, es, e, r⟩
theorem DAt.nodup (x : DAt pg w o kvs ep) : (kvs.map (·.1)).Nodup := let ⟨_, _, _, _, _, r⟩ := x; r
/-- a key that stands is stored anew: the dict's epoch stays -/
theorem storeOld {key v : Value} {k : Str} {Q : Unit → Shared → Prop} {g : Obj → Led} (F : Fr h₀ L s.heap m) (N : News h₀ L s.heap news) (U : UpdF d o news g) (hd : DAt pg w o kvs ep) (hkey : (PySem.strKind pg w).is k key = true) (hin : k ∈ kvs.map (·.1))
    (h : ∀ h' o', Fr h₀ L h' m → News h₀ L h' (g o') → DAt pg w o' (stored kvs k v) ep → Q () { s with heap := h', toks := s.toks + 1 }) : wpAny (model pg w) A (setItem (.ref d) key v) Q E s := by
  obtain ⟨pre, post, rfl, hg, a, b⟩ := U.split
  have hm := N (d, o) (List.mem_append_right _ (.head _))
  obtain ⟨es, hc, hdd, hk, hp, hn⟩ := hd
  have hT : s.TypeIs (.ref d) "dict" := (Heap.dictOf_iff.mpr ⟨o, hm.1, es, ep, hc, hdd, hk, hp, hn⟩ : s.heap.DictOf (PySem.strKind pg w) d kvs).typeIs
  unfold setItem
  try with_reducible refine wpAny_holding ?_
  refine wpAny_bind (wpAny_sequenceKey hT (by decide) ?_)
  refine wpAny_bind (wpAny_callSpecial?_slot (name := Str.ofString "__setitem__") hT slot_dict_setitem
    (wpAny_call_entry slot_dict_setitem hT entry_dict_setitem ?_ (args_dict_setitem _ _ _)))
  show wpAny _ _ (Builtin.Dict.notOrdered "__setitem__" ⟨[.ref d, key, v], []⟩ >>= _) _ _ s
  refine wpAny_bind (wpAny_notOrdered_dict hT ?_)
  show wpAny _ _ (dictSet d key v >>= _) _ _ s
  refine wpAny_bind ?_
  unfold dictSet
  try with_reducible refine wpAny_holding ?_
  refine wpAny_bind ((PySem.strKind pg w).pyHash hkey ?_)
  unfold dictSetHashed
  try with_reducible refine wpAny_holding ?_
  refine wpAny_bind (wpAny_dictFind_of (s := { s with toks := s.toks + 1 }) hkey hm.1 hdd hk ?_)
  have hidx : (es.findIdx? fun e => (PySem.strKind pg w).is k e.key) = kvs.findIdx? fun kv => decide (kv.1 = k) := by
    rw [← hp.findIdx k]; obtain ⟨l⟩ := es; simp
  have hany : (kvs.any fun kv => decide (kv.1 = k)) = true := by
    obtain ⟨p, h1, h2⟩ := List.mem_map.mp hin
    exact List.any_eq_true.mpr ⟨p, h1, by simpa using h2⟩
  cases hi : es.findIdx? fun e => (PySem.strKind pg w).is k e.key with
  | none =>
    rw [hidx] at hi
    have := List.findIdx?_eq_none_iff.mp hi
    obtain ⟨p, h1, h2⟩ := List.any_eq_true.mp hany
    rw [this p h1] at h2; cases h2
  | some i =>
    have hs := Heap.SameBut.update s.heap d (Obj.mapDict fun es => es.modify i fun e => { e with val := v })
    have ho' : (s.heap.update d (Obj.mapDict fun es => es.modify i fun e => { e with val := v })).get? d = some _ := Heap.get?_update_self _ hm.1 (Obj.isFreed_of_dict (Obj.data_mapDict hdd _))
    refine wpAny_bind (wpAny_rule (wpAny_bind (wpAny_updateDict (s := { s with toks := s.toks + 1 }) hm.1 hdd (wpAny_point (wpAny_pure ⟨.none, rfl, wpAny_pure (h _ _ (F.change hs hm.2.1 hm.2.2) (hg _ ▸ N.setIn a b hs ho') ⟨_, hc.mapDict _, Obj.data_mapDict hdd _, hk.modify _ _, ?_, ?_⟩)⟩)))))
    · rw [stored, if_pos hany]
      have hl : (es.toList.findIdx? fun e => (PySem.strKind pg w).is k e.key) = some i := by rw [← hi]; obtain ⟨l⟩ := es; simp
      have := hp.modify hn hl v
      obtain ⟨l⟩ := es
      simpa using this
    · rw [stored, if_pos hany, keys_map_store]; exact hn
end
section
variable {pg : Program} {w : World} {A : Around} {E : Value → Shared → Prop} {s : Shared} {h₀ : Heap} {kvs : List (Str × Value)} {ep : Nat} {env : Env}
theorem pyNext_dict_endH {it d : Addr} {i : Nat} {Q : Option Value → Shared → Prop} (hh : HOk A.handled s.heap) (hne : ∀ e, A.handled = some (.ref e) → e ≠ it) (hit : s.heap.IsKeyIter it d i kvs.length ep)
    (hm : s.heap.DictAt (PySem.strKind pg w) d kvs ep) (hx : kvs[i]? = none) (hQ : ∀ h', Heap.ExtBut it s.heap h' → Q none { s with heap := h' }) : wpAny (model pg w) A (pyNext (.ref it)) Q E s := by
  obtain ⟨o, ho, hc, hd⟩ := id hit
  obtain ⟨od, es, hod, hcd, hdd, hk, hp, hn⟩ := id hm
  unfold pyNext
  refine wpAny_bind (wpAny_attempt (wpAny_callSpecial?_slot (name := Str.ofString "__next__") hit.typeIs F.slot_dict_keyiterator_next
    (wpAny_call_entry F.slot_dict_keyiterator_next hit.typeIs F.entry_dict_keyiterator_next ?_ (F.args_dict_keyiterator_next_1 _))))
  refine wpAny_bind (wpAny_pure ?_)
  refine wpAny_bind ?_
  refine wpAny_bind ?_
  first | refine wpAny_bind (wpAny_typeNameOfWhole_keyiter hit.typeIs (wpAny_pure ?_)) | refine wpAny_bind (wpAny_typeNameOf_keyiter hit.typeIs (wpAny_pure ?_))
  refine wpAny_bind (wpAny_fieldsOf ho hd ?_)
  simp only [show Builtin.Dict_items.ownsTuple "dict_keyiterator" = false by decide, Bool.false_eq_true, if_false]
  show wpAny _ _ (if (Value.ref d == Value.none) = true then _ else _) _ _ s
  rw [if_neg (show ¬ ((Value.ref d == Value.none) = true) from Bool.false_ne_true)]
  refine wpAny_bind (wpAny_pure (wpAny_bind (wpAny_dictEntries hod hdd ?_)))
  have hsz : es.size = kvs.length := by rw [← hp.length]; simp
  rw [if_neg (by rw [hsz]; simp)]
  refine wpAny_bind (wpAny_pure (wpAny_bind (wpAny_dictEpoch hod hdd ?_)))
  rw [if_neg (by simp)]
  refine wpAny_pure ?_
  have hge : es.size ≤ i := by rw [hsz]; simpa using hx
  simp only [show ¬ ((i : Int) < 0) from by omega, if_false, Int.toNat_natCast, Array.getElem?_eq_none hge]
  refine wpAny_bind ?_
  first | refine wpAny_bind (wpAny_typeNameOfWhole_keyiter hit.typeIs (wpAny_pure ?_)) | refine wpAny_bind (wpAny_typeNameOf_keyiter hit.typeIs (wpAny_pure ?_))
  show wpAny _ _ (setField (.ref it) 0 .none >>= _) _ _ s
  refine wpAny_bind (wpAny_setField ho hd (by simp) ?_)
  show wpAny _ _ (newExc (.type "StopIteration") [] >>= _) _ _ _
  refine wpAny_bind ?_
  simp only [newExc, newTuple]
  refine wpAny_bind (wpAny_newObj_type ?_ (by size_fits))
  refine wpAny_bind (m := firstArgMember _ _) (wpAny_of_eq (a := Value.none) (by first | rfl | (simp only [firstArgMember]; rfl)) ?_)
  refine wpAny_newObj_type ?_ (by size_fits)
  have e2 := (Heap.SameBut.update s.heap it (Obj.mapFields fun x => x.setIfInBounds 0 Value.none)).1
  refine raiseNew_held (A := A.in1) ?_ ?_ (Heap.get?_push_size _ rfl) rfl (by simp; omega) fun h' hs' ho' => ?_
  · refine hh.imp id fun ⟨e, oe, vs, a, b, c⟩ => ⟨e, oe, vs, a, Heap.get?_push_of_some _ (Heap.get?_push_of_some _ ?_), c⟩
    exact (Heap.get?_update_ne _ _ _ _ (hne e a)).trans b
  · intro e he q
    rcases hh with hh | ⟨e', oe, vs, a, b, c⟩
    · rw [show A.handled = some (.ref e) from he] at hh; cases hh
    · rw [show A.handled = some (.ref e) from he] at a; cases a
      have := Heap.lt_size b
      simp only [Heap.size_push] at q
      rw [e2] at q
      exact absurd this (by rw [q]; exact Nat.not_lt.mpr (Nat.le_succ _))
  · obtain ⟨o', ho', hc'⟩ := ho'
    refine wpAny_bind (wpAny_isInstance (T := "StopIteration") (b := true) ⟨_, ho', hc'⟩ isSubtype_stop ?_)
    refine wpAny_pure (hQ _ fun b ob hb e => ?_)
    have e1 := Heap.SameBut.extBut (Heap.SameBut.update s.heap it (Obj.mapFields fun x => x.setIfInBounds 0 Value.none)) b ob hb e
    have hlt := Heap.lt_size e1
    refine (hs'.2 b ?_).trans (Heap.get?_push_of_some _ (Heap.get?_push_of_some _ e1))
    simp only [Heap.size_push]
    exact Nat.ne_of_lt (Nat.lt_succ_of_lt hlt)
theorem isStr_of {k : Str} {v : Value} (h : (PySem.strKind pg w).is k v = true) : ∃ t, v = .str k t := by
  cases v with
  | str x t =>
    have : x = k := by simpa [PySem.strKind, Value.isStrOf] using h
    exact ⟨t, by rw [this]⟩
  | _ => simp [PySem.strKind, Value.isStrOf] at h
/-- a for over a dict's keys whose turns may store anew at keys that stand -/
theorem for_keys {target : Expr} {body : List Stmt} {Q : Flow → Shared → Prop} {d : Addr} {o₀ : Obj} {ks : List Str} {m₀ : Str → Option Value} {news : Led} (J : Nat → (Str → Option Value) → Led → Prop) (hh : HOk A.handled h₀) (F : Fr h₀ env.locals s.heap m₀) (N : News h₀ env.locals s.heap news)
    (lo : (d == sysModules) = false) (hm : (d, o₀) ∈ news) (hd : DAt pg w o₀ kvs ep) (hks : kvs.map (·.1) = ks) (hj : J 0 m₀ news)
    (keep : ∀ i m nw, J i m nw → ∃ o kvs', (d, o) ∈ nw ∧ DAt pg w o kvs' ep ∧ kvs'.map (·.1) = ks)
    (turn : ∀ i k t m₁ nw I oI h tk, ks[i]? = some k → J i m₁ nw → (∀ p ∈ nw, p.1 ≠ I) → (∀ p ∈ news, p.1 < I) → Fr h₀ env.locals h m₁ → News h₀ env.locals h ((I, oI) :: nw) →
      wpAny (model pg w) A (assign target env (.str k t)) (fun _ s₂ => wpAny (model pg w) A (execs body env) (TurnPost Q (TurnEnd h₀ env.locals I oI (J (i + 1)) s)) E s₂) E { s with heap := h, toks := tk })
    (done : ∀ m₁ nw h tk, J ks.length m₁ nw → Fr h₀ env.locals h m₁ → News h₀ env.locals h nw → Q .next { s with heap := h, toks := tk })
    (ht : ∀ it v, letOwnedTupleGo target it v = pure ()) (hE : PassesOwn (model pg w) A env E) :
    wpAny (model pg w) A (pyIter (.ref d)) (fun it s₂ => codeAny (model pg w) A (.forLoop target it body [] env) (fun r s' => match r with | .ok f => Q f s' | .error e => cameBackBy (model pg w) A env E e s') s₂) E s := by
  have hI₀ : h₀.get? s.heap.objs.size = none := next_is_new F
  have hlen : kvs.length = ks.length := by rw [← hks, List.length_map]
  refine wpAny_pyIter_dict lo (hd.at (N _ hm).1) ?_
  generalize hI : s.heap.objs.size = I at hI₀ ⊢
  have hIL : I ≠ env.locals := by rw [← hI]; exact Nat.ne_of_gt F.ns.lt
  let KI (oI : Obj) (i : Nat) : Prop := oI.cls = .type "dict_keyiterator" ∧ oI.data = .fields #[.ref d, .int i 0, .int ks.length 0, .int ep 0]
  refine codeAny_forLoop (fun k s' => ∃ h' tk m' nw' i oI, s' = { s with heap := h', toks := tk } ∧ KI oI i ∧ Fr h₀ env.locals h' m' ∧ News h₀ env.locals h' ((I, oI) :: nw') ∧ (∀ p ∈ nw', p.1 ≠ I) ∧ J i m' nw' ∧ i ≤ ks.length ∧ k = ks.length + 1 - i) ?_ (ks.length + 1)
    ⟨_, s.toks, m₀, news, 0, { cls := .type "dict_keyiterator", data := .fields #[.ref d, .int 0 0, .int kvs.length 0, .int ep 0] }, rfl, ⟨rfl, by rw [hlen]; rfl⟩, F.push _, fun p hp => ?_, fun p hp q => ?_, hj, Nat.zero_le _, rfl⟩ (fun v => ht _ v)
  · rintro k s' ⟨h', tk, m', nw', i, oI, rfl, hKI, F', N', hnI, hJ, hi, rfl⟩
    obtain ⟨o, kvs', hm', hd', hks'⟩ := keep _ _ _ hJ
    have hlen' : kvs'.length = ks.length := by rw [← hks', List.length_map]
    have hit : h'.IsKeyIter I d i kvs'.length ep := ⟨oI, (N' _ (.head _)).1, hKI.1, by rw [hlen']; exact hKI.2⟩
    have hDA := hd'.at (N' _ (.tail _ hm')).1
    by_cases hlt : i < ks.length
    · obtain ⟨⟨k, x⟩, hx⟩ : ∃ p, kvs'[i]? = some p := ⟨kvs'[i], by simp⟩
      have hk : ks[i]? = some k := by subst hks'; rw [List.getElem?_map, hx]; rfl
      refine wpAny_pyNext_dict_item (k := k) (v := x) hit hDA hx fun key h₁ hkey hit₁ hs₁ => ?_
      obtain ⟨t, rfl⟩ := isStr_of hkey
      obtain ⟨oI₁, e1, e2, e3⟩ := hit₁
      have F₁ : Fr h₀ env.locals h₁ m' := F'.change hs₁ hIL hI₀
      have N₁ : News h₀ env.locals h₁ ((I, oI₁) :: nw') := fun p hp => by
        rcases List.mem_cons.mp hp with rfl | hp
        · exact ⟨e1, hIL, hI₀⟩
        · exact ⟨(hs₁.2 _ (hnI p hp)).trans (N' p (.tail _ hp)).1, (N' p (.tail _ hp)).2⟩
      refine wpAny_passesOwn hE (wpAny_mono (turn i _ t m' nw' I oI₁ h₁ tk hk hJ hnI (fun p hp => by rw [← hI]; exact Heap.lt_size (N p hp).1) F₁ N₁) (fun _ s₂ h₂ => ?_) fun _ _ e => e)
      refine wpAny_passesOwn hE (wpAny_mono h₂ (fun f s₃ h₃ => ?_) fun _ _ e => e)
      have fin : TurnEnd h₀ env.locals I oI₁ (J (i + 1)) s s₃ → ∃ n, n < ks.length + 1 - i ∧ ∃ h' tk m' nw' i oI, s₃ = { s with heap := h', toks := tk } ∧ KI oI i ∧ Fr h₀ env.locals h' m' ∧ News h₀ env.locals h' ((I, oI) :: nw') ∧ (∀ p ∈ nw', p.1 ≠ I) ∧ J i m' nw' ∧ i ≤ ks.length ∧ n = ks.length + 1 - i := by
        rintro ⟨h₄, tk₄, m₄, nw₄, rfl, F₄, N₄, hn₄, hJ₄⟩
        exact ⟨ks.length + 1 - (i + 1), by omega, h₄, tk₄, m₄, nw₄, i + 1, oI₁, rfl, ⟨e2, by rw [← hlen']; exact e3⟩, F₄, N₄, hn₄, hJ₄, hlt, rfl⟩
      cases f with
      | ret v => exact h₃
      | brk => exact h₃
      | next => exact fin h₃
      | cont => exact fin h₃
    · have hin : i = ks.length := by omega
      subst hin
      refine pyNext_dict_endH (hh.keeps F'.keep) (hh.ne_new hI₀) hit hDA (by simp [hlen']) fun h₁ hx => wpAny_execs_nil ?_
      have F₁ : Fr h₀ env.locals h₁ m' := ⟨F'.ns.at' fun o e => hx _ o (Ne.symm hIL) e, fun b o e => hx b o (fun q => by rw [q, hI₀] at e; cases e) (F'.keep b o e), F'.above⟩
      exact done m' nw' h₁ tk hJ F₁ fun p hp => ⟨hx _ _ (hnI p hp) (N' p (.tail _ hp)).1, (N' p (.tail _ hp)).2⟩
  · rcases List.mem_cons.mp hp with rfl | hp
    · exact ⟨by rw [← hI]; exact Heap.get?_push_size _ rfl, hIL, hI₀⟩
    · exact ⟨Heap.get?_push_of_some _ (N p hp).1, (N p hp).2⟩
  · exact absurd (Heap.lt_size (N p hp).1) (by rw [q, hI]; exact Nat.lt_irrefl _)
end
end
section
section
variable {pg : Program} {w : World} {A : Around} {E : Value → Shared → Prop} {s : Shared} {env : Env} {h₀ : Heap} {x : Str} {body : List Stmt} {Q : Flow → Shared → Prop}
/-- a for over a range -/
theorem for_range {r : Addr} {a b : Int} {t u v : Tok} {n : Nat} {m₀ : Str → Option Value} {news : Led} (J : Nat → (Str → Option Value) → Led → Prop) (hh : A.handled = none) (F : Fr h₀ env.locals s.heap m₀) (N : News h₀ env.locals s.heap news)
    (hr : IsRange s.heap r a b 1 t u v) (hsm : Builtin.Range.small a b 1 = true) (hn : Builtin.Range.rangeSize a b 1 = ((n : Nat) : Int)) (hj : J 0 m₀ news)
    (turn : ∀ i m₁ nw I oI h tk t, i < n → J i m₁ nw → (∀ p ∈ nw, p.1 ≠ I) → Fr h₀ env.locals h (fun y => if y = x then some (.int (a + (i : Int)) t) else m₁ y) → News h₀ env.locals h ((I, oI) :: nw) →
      wpAny (model pg w) A (execs body env) (TurnPost Q (TurnEnd h₀ env.locals I oI (J (i + 1)) s)) E { s with heap := h, toks := tk })
    (done : ∀ m₁ nw h tk, J n m₁ nw → Fr h₀ env.locals h m₁ → News h₀ env.locals h nw → Q .next { s with heap := h, toks := tk }) :
    wpAny (model pg w) A (pyIter (.ref r)) (fun it s₂ => LoopAtV pg w A h₀ env x body Q E it s₂) E s := by
  have hI₀ : h₀.get? s.heap.objs.size = none := next_is_new F
  refine wpAny_pyIter_range hr hsm ?_
  have W := LCg.range_walks (prog := pg) (w := w) (A := A) (I := s.heap.objs.size) hh a n
  refine ⟨_, _, _, n, _, _, m₀, news, J, rfl, W, ?_, ?_, ?_, (by show IsRangeIter _ _ _ _ _; rw [hn]; simpa using Heap.get?_push_size _ rfl), F.push _, (fun p hp => ⟨Heap.get?_push_of_some _ (N p hp).1, (N p hp).2⟩), hj, ?_, ?_⟩
  · intro hb
    exact absurd F.ns.lt (List.mem_singleton.mp hb ▸ Nat.lt_irrefl _)
  · intro b hb
    rw [List.mem_singleton.mp hb]; exact hI₀
  · intro p hp hI
    exact absurd (Heap.lt_size (N p hp).1) ((List.mem_singleton.mp hI) ▸ Nat.lt_irrefl _)
  · rintro i v m₁ nw s₁ own ⟨hh', tk', rfl⟩ hin hP hJ hoff hsub hget hall hst F₁ N₁
    obtain ⟨t, rfl⟩ := hP
    obtain ⟨oI, heI⟩ : ∃ oI, hh'.get? s.heap.objs.size = some oI := ⟨_, hst⟩
    have hown : ∀ p ∈ own, p = (s.heap.objs.size, oI) := fun p hp => by
      have g := hget p hp
      have e := List.mem_singleton.mp (hsub p hp)
      rw [e, heI] at g
      exact Prod.ext e (Option.some.inj g).symm
    have hnI : ∀ p ∈ nw, p.1 ≠ s.heap.objs.size := fun p hp q => hoff p hp (List.mem_singleton.mpr q)
    have hIown : (s.heap.objs.size, oI) ∈ own := hall _ (.head _) hI₀ _ heI
    refine wpAny_mono (turn i m₁ nw s.heap.objs.size oI hh' tk' t hin hJ hnI F₁ fun p hp => ?_) (fun f s₂ p => ?_) fun _ _ e => e
    · rcases List.mem_cons.mp hp with rfl | hp
      · exact N₁ _ (List.mem_append_left _ hIown)
      · exact N₁ p (List.mem_append_right _ hp)
    · have fin : TurnEnd h₀ env.locals s.heap.objs.size oI (J (i + 1)) s s₂ → LoopStepU h₀ env.locals [s.heap.objs.size] own (J (i + 1)) { s with heap := hh', toks := tk' } .next s₂ := by
        rintro ⟨h', tk, m', nw', e, F', N', hn', hJ'⟩
        subst e
        refine ⟨rfl, h', tk, m', nw', rfl, F', fun p hp => ?_, fun p hp q => hn' p hp (List.mem_singleton.mp q), hJ'⟩
        rcases List.mem_append.mp hp with hp | hp
        · rw [hown p hp]; exact N' _ (.head _)
        · exact N' p (.tail _ hp)
      cases f with
      | ret v => exact .ret p
      | brk => exact .brk p
      | next => exact .next (fin p)
      | cont => exact .cont (fin p)
  · rintro h' tk m' nw' F' N' _ hJ
    exact done m' nw' h' tk hJ F' N'
end
/-- as LCg.CompSrc, under a name of its own -/
def RSrc (pg : Program) (w : World) (A : Around) (h₀ : Heap) (L : Addr) (m : Str → Option Value) (env : Env) (elt : PySem.Expr) (x : Str) (scope : Scope) (cl : List (Str × Addr)) (Fin : Shared → List Value → Led → Prop) (xv : Value) (s₁ : Shared) : Prop := LCg.CompSrc pg w A h₀ L m env elt x scope cl Fin xv s₁
/-- a comprehension over a range -/
theorem CSrcR.mk {pg : Program} {w : World} {A : Around} {h₀ : Heap} {L : Addr} {m : Str → Option Value} {env : Env} {elt : PySem.Expr} {x : Str} {scope : Scope} {cl : List (Str × Addr)} {Fin : Shared → List Value → Led → Prop} {r : Addr} {a b : Int} {t u v : Tok} {n : Nat} {nw : Led} {s₁ : Shared} (hh : A.handled = none) (F : Fr h₀ L s₁.heap m) (N : News h₀ L s₁.heap nw)
    (hr : IsRange s₁.heap r a b 1 t u v) (hsm : Builtin.Range.small a b 1 = true) (hn : Builtin.Range.rangeSize a b 1 = ((n : Nat) : Int)) (hsz : n ≤ sizeLine)
    (Inv : Nat → List Value → Led → Prop) (h0 : Inv 0 [] nw)
    (step : ∀ i v ys nw I oI C oC D m₂ h tk (E' : Value → Shared → Prop), i < n → (∃ t, v = .int (a + (i : Int)) t) → Inv i ys nw → LCg.NsObj oC m₂ → m₂ x = some v → Fr h₀ L h m → News h₀ L h ((I, oI) :: (C, oC) :: (D, LCg.lst ys) :: nw) → LCg.Off3 I C D nw → ((@Ne Nat I C) ∧ (@Ne Nat I D) ∧ (@Ne Nat C D)) →
      wpAny (model pg w) A (eval elt (compEnvC scope cl C env)) (LCg.CompEnd h₀ L m { s₁ with heap := h, toks := tk } I oI C oC D (LCg.lst ys) CTrue (fun y nw' => Inv (i + 1) (ys ++ [y]) nw')) E' { s₁ with heap := h, toks := tk })
    (fin : ∀ (g : Heap) ys nw, Inv n ys nw → Fin { s₁ with heap := g } ys nw) : RSrc pg w A h₀ L m env elt x scope cl Fin (.ref r) s₁ :=
  LCg.CompSrc.range hh F N hr hsm hn hsz fun g => rest_inv (s := { s₁ with heap := g }) (S := fun _ => True) Inv (fun _ _ _ _ => trivial) step (fin g) n 0 [] nw rfl h0
theorem evalCompR {pg : Program} {w : World} {A : Around} {E : Value → Shared → Prop} {s : Shared} {h₀ : Heap} {L : Addr} {m : Str → Option Value} {env : Env} {elt iter : PySem.Expr} {x : Str} {px : Pos} {scope : Scope} {cl : List (Str × Addr)} {pos : Pos} {Q : Value → Shared → Prop} (F₀ : Fr h₀ L s.heap m)
    (hclos : closureFor scope env = pure cl) (hcell : ∀ y ∈ scope.names, y.2 ≠ .cell) (hkind : scope.kind = .function)
    (hnames : ∀ y ∈ scope.names, y.2 = .local → scope.names.lookup y.1 = some .local) (hx : scope.names.lookup x = some .local)
    (h : wpAny (model pg w) A (eval iter env) (RSrc pg w A h₀ L m env elt x scope cl (fun s₂ => LCg.FinE h₀ L m s₂ Q)) E s)
    (hs : ∀ x, foldedSetIterable iter env x = pure x := by intro _; rfl) :
    wpAny (model pg w) A (eval (.ListComp elt [⟨.Name x px, iter, [], 0⟩] scope pos) env) Q E s := LCg.ListComp_U F₀ hclos hcell hkind hnames hx h hs
end
section
/-- what stands as handled, no object of the ledger -/
def HeldAt (hh : Option Value) (h : Heap) (news : Led) : Prop := HOk hh h ∧ ∀ e, hh = some (.ref e) → ∀ p ∈ news, p.1 ≠ e
theorem HeldAt.ground {hh : Option Value} {h : Heap} {news : Led} (x : HeldAt hh h news) : HOk hh (hideAll h (news.map (·.1))) := by
  obtain ⟨a, b⟩ := x
  rcases a with a | ⟨e, o, vs, e1, e2, e3⟩
  · exact .inl a
  · refine .inr ⟨e, o, vs, e1, hideAll_get _ e2 fun q => ?_, e3⟩
    obtain ⟨p, hp, k⟩ := List.mem_map.mp q
    exact b e e1 p hp k
theorem HOk.held {hh : Option Value} {h₀ h : Heap} {L : Addr} {m : Str → Option Value} {news : Led} (x : HOk hh h₀) (F : Fr h₀ L h m) (N : News h₀ L h news) : HeldAt hh h news := by
  refine ⟨x.keeps F.keep, fun e he p hp q => ?_⟩
  rcases x with x | ⟨e', o, vs, e1, e2, _⟩
  · rw [x] at he; cases he
  · rw [e1] at he; cases he
    have := (N p hp).2.2
    rw [q, e2] at this; cases this
section
open PySem.Spec PySem.Calls
variable {w : World} {A A₀ : Around} {s : Shared} {h₀ base : Heap} {L : Addr} {m mg mb : Str → Option Value} {news : Led} {p : Program} {loose : List Str} {mean : ExcName → Option Value} {K : Frag}
/-- a def with captured locals is entered under what stands as handled -/
theorem enterHeld {env : Env} {outer : List Env} {R : Result → Shared → Prop} {name qual : Str} {params : Arguments} {body : List Stmt} {scope : Scope} {dV kV doc pm cdv ct oc : Value} {an od : Option Addr} {osl : Array (Option Value)} {f : Addr} {args : Args} {binds : List (Str × Value)}
    (B : Below A₀ base outer h₀) (F : Fr h₀ L s.heap m) (X₀ : K.In h₀) (N : News h₀ L s.heap news) (T : Top p loose mean mg mb h₀) (hA : A.frames = some (env :: outer)) (hf : env.frame = some L) (hke : env.scope.kind = .function)
    (ho : K.lookup f = some ⟨oc, od, .func (fnOf name qual params body scope dV kV doc pm an cdv ct), osl⟩) (hcd : codeIn K cdv qual = true) (hroom : A.depth < recursionLimit)
    (hbind : BindsTo s (fnOf name qual params body scope dV kV doc pm an cdv ct) args binds) (hkind : (binds.all fun y => scope.names.lookup y.1 == some .local || scope.names.lookup y.1 == some .cell) = true)
    (hnd : ((cellsFrom 0 scope.names []).map (·.1)).Nodup) (hH : HeldAt A.handled s.heap news)
    (h : ∀ g L' h₁ tk cells, HOk A.handled g → Fr h₀ L g m → Fr g L' h₁ (bindL (envOfC qual scope L' f cdv).kindOf binds fun _ => none) → News g L' h₁ (cells ++ news) →
      CellsAre (bindC (envOfC qual scope L' f cdv).kindOf binds fun _ => none) (cellsFrom (L' + 1) scope.names []) cells → Below A base (env :: outer) g → K.In g → Top p loose mean mg mb g → (∀ p ∈ news, p.1 < L') →
      wpAny (model prg w) (A.deeper (envOfC qual scope L' f cdv)) (execs body (envOfC qual scope L' f cdv))
        (fun fl s' => LeaveK h₀ L m g R (match fl with | .ret v => v | _ => .none) s')
        (fun e s' => wpAny (model prg w) (A.deeper (envOfC qual scope L' f cdv)) (leaving (envOfC qual scope L' f cdv) e) (fun _ s'' => R (.error e) s'') (fun e' s'' => R (.error e') s'') s')
        { s with heap := h₁, toks := tk })
    (hco : scope.isCoroutine = false) (hgen : scope.isGenerator = false) (hk : scope.kind = .function) : codeAny (model prg w) A (.call (.ref f) args) R s := by
  have X := X₀.keeps F.keep
  have low : ∀ p ∈ news, p.1 < s.heap.objs.size := fun p hp => Heap.lt_size (N p hp).1
  obtain ⟨G1, G2, G3, G4⟩ := groundX (R := R) B F N hA hf hke
  refine codeAny_call_function hroom (X _ _ ho) rfl hco hgen rfl (codeRec_of X hcd) (hbind _ _ _ _ (wpAny_newFunctionEnv_cells hk (kindsX hkind _) fun env' he s' x => ?_))
  have stay := x.toInCall.keep
  subst he
  have hcl := Cl.news (h₀ := s.heap) (Nat.le_refl _) fun n c hm => ⟨x.cell n c (lookup_of_mem_nodup (cellsFrom_names scope.names 0 (s.heap.objs.size + 1) [] [] rfl ▸ hnd) hm), x.above n c hm⟩
  obtain ⟨h₁, tk, rfl, _⟩ := x.done
  obtain ⟨cells, NC, YC⟩ := hcl
  refine ⟨(T.nolimit.keeps F.keep).keeps stay, codeAny_func ?_⟩
  have F1 : Fr (hideAll s.heap (news.map (·.1))) s.heap.objs.size h₁ (bindL (envOfC qual scope s.heap.objs.size f cdv).kindOf binds fun _ => none) := ⟨x.toInCall.ns, fun b o e => stay b o (of_hideAll _ e), Nat.le_of_eq (hideAll_size _ _)⟩
  have N1 : News (hideAll s.heap (news.map (·.1))) s.heap.objs.size h₁ (cells ++ news) := fun p hp => by
    rcases List.mem_append.mp hp with q | q
    · obtain ⟨c1, c2, c3⟩ := NC p q
      refine ⟨c1, c2, ?_⟩
      cases z : (hideAll s.heap (news.map (·.1))).get? p.1 with
      | none => rfl
      | some o => rw [of_hideAll _ z] at c3; cases c3
    · exact ⟨stay _ _ (N p q).1, Nat.ne_of_lt (low p q), hideAll_none _ (List.mem_map_of_mem q)⟩
  exact wpAny_mono (h _ _ h₁ tk cells hH.ground G1 F1 N1 YC G2 (X₀.keeps G3) (T.keeps G3) low) (fun fl s' hl => G4 _ _ hl) fun _ _ y => y
end
/-- a contract under what stands as handled at the call -/
def CallSpecH (w : World) (f : Addr) (vs : List Value) (lv : Nat) (news : Led) (Post : Value → Led → Prop) : Prop :=
  ∀ (p : Program) (loose : List Str) (mean : ExcName → Option Value) (mg mb : Str → Option Value) (hh : Option Value) (dp un : Nat) (gd : Option (List Code)) (env : Env) (outer : List Env) (A₀ : Around) (base h₀ : Heap) (L : Addr) (m : Str → Option Value) (s : Shared) (Q E : Value → Shared → Prop),
    Below A₀ base outer h₀ → Fr h₀ L s.heap m → (hd.heap_39 w.params).In h₀ → News h₀ L s.heap news → Top p loose mean mg mb h₀ → env.frame = some L → env.scope.kind = .function → HeldAt hh s.heap news → dp + 10 * lv < recursionLimit → un + 100 * lv < cLine →
    (∀ v h' tk' news', Fr h₀ L h' m → News h₀ L h' news' → Post v news' → Q v { s with heap := h', toks := tk' }) →
    wpAny (model prg w) { handled := hh, depth := dp, frames := some (env :: outer), guards := gd, units := un } (call (.ref f) vs) Q E s
theorem CallSpecH.spec {w : World} {f : Addr} {vs : List Value} {lv : Nat} {news : Led} {Post : Value → Led → Prop} (S : CallSpecH w f vs lv news Post) : CallSpec w f vs lv HOk news Post :=
  fun p loose mean mg mb hh dp un gd env outer A₀ base h₀ L m s Q E B F X N T hf hk hH => S p loose mean mg mb hh dp un gd env outer A₀ base h₀ L m s Q E B F X N T hf hk (HOk.held hH F N)
end
section
theorem strs_cut {q : List Value} {v : Value} : ∀ {p : List Value} {lx : List Str}, StrsAre (p ++ v :: q) lx → ∃ a x b t, lx = a ++ x :: b ∧ v = .str x t ∧ StrsAre p a ∧ StrsAre q b
  | [], lx, h => by cases h with | cons x t r => exact ⟨[], x, _, t, rfl, rfl, .nil, r⟩
  | y :: r, lx, h => by
    cases h with | cons x t k =>
    obtain ⟨a, z, b, tz, rfl, e, k1, k2⟩ := strs_cut (p := r) k
    exact ⟨x :: a, z, b, tz, rfl, e, .cons _ _ k1, k2⟩
theorem cut_at {vs : List Value} {d : Int} (h0 : 0 ≤ d) (h1 : d < (vs.length : Nat)) : ∃ p v q, vs = p ++ v :: q ∧ d.toNat = p.length := by
  have h2 : d.toNat < vs.length := by omega
  refine ⟨vs.take d.toNat, vs[d.toNat], vs.drop (d.toNat + 1), ?_, by rw [List.length_take]; omega⟩
  rw [← List.drop_eq_getElem_cons h2, List.take_append_drop]
section
variable {pg : Program} {w : World} {A : Around} {E : Value → Shared → Prop} {s : Shared} {h₀ : Heap} {L l : Addr} {m : Str → Option Value} {n : Nat} {news : Led}
theorem kl_cut_at (p q : List Value) (y : Value) : kl_cut (p ++ y :: q) p.length = some (p, y, q) := by
  induction p with
  | nil => rfl
  | cons a r ih =>
    show (match kl_cut (r ++ y :: q) r.length with | some (p, y, q) => some (a :: p, y, q) | none => none) = _
    rw [ih]
theorem popIdx {i : Int} {u : Tok} {p q : List Value} {y : Value} {news' : Led} {Q : Value → Shared → Prop} (F : Fr h₀ L s.heap m) (N : News h₀ L s.heap news) (h0 : 0 ≤ i) (hi : i.toNat = p.length) (hz : (p ++ y :: q).length ≤ 10000000) (U : Upd l (listO (p ++ y :: q) n) (listO (p ++ q) (n + 1)) news news')
    (h : ∀ h', Fr h₀ L h' m → News h₀ L h' news' → Q y { s with heap := h' }) : wpAny (model pg w) A (call (.builtin "list.pop") [.ref l, .int i u]) Q E s := by
  have hl : p.length < (p ++ y :: q).length := by simp
  refine kl_popAt F N (its := (p ++ y :: q).toArray) (k := p.length) (p := p) (q := q) (y := y) ?_ ?_ (by simpa using kl_cut_at p q y) U (line_small (Nat.le_trans (by simp) (Nat.le_trans hz (by decide)))) h
  · unfold Builtin.List.listFitsIndex
    have : i < 2 ^ 62 := by omega
    simp only [Bool.and_eq_true, decide_eq_true_eq]
    omega
  · rw [List.size_toArray]
    unfold seqIndex?
    simp only [show ¬ i < 0 by omega, if_false, Bool.and_eq_true, decide_eq_true_eq]
    rw [if_pos ⟨h0, by omega⟩, hi]
end
def Keep {α : Type} (P : α → Shared → Prop) (f : α) (s : Shared) : Prop := P f s
theorem Keep.mk {α : Type} {P : α → Shared → Prop} {f : α} {s : Shared} (h : P f s) : Keep P f s := h
theorem cutS {α : Type} {M : Model} {A : Around} {t : Sem α} {E : Value → Shared → Prop} {s : Shared} {Q : α → Shared → Prop} (P : α → Shared → Prop) (h : wpAny M A t (Keep P) E s) (k : ∀ f s', P f s' → Q f s') : wpAny M A t Q E s :=
  wpAny_mono h (fun f s' z => k f s' z) fun _ _ z => z
theorem each_app {α : Type} {R : Value → α → Prop} {p q : List Value} {a b : List α} (h : Each R p a) (k : Each R q b) : Each R (p ++ q) (a ++ b) := by
  refine ⟨by simp [h.1, k.1], fun i v e => ?_⟩
  rcases Nat.lt_or_ge i p.length with hi | hi
  · rw [List.getElem?_append_left hi] at e
    obtain ⟨x, e1, e2⟩ := h.2 i v e
    exact ⟨x, by rw [List.getElem?_append_left (by rw [← h.1]; exact hi)]; exact e1, e2⟩
  · rw [List.getElem?_append_right hi] at e
    obtain ⟨x, e1, e2⟩ := k.2 _ v e
    exact ⟨x, by rw [List.getElem?_append_right (by rw [← h.1]; exact hi), ← h.1]; exact e1, e2⟩
theorem each_cut {α : Type} {R : Value → α → Prop} {p q : List Value} {v : Value} {xs : List α} (h : Each R (p ++ v :: q) xs) : ∃ a x b, xs = a ++ x :: b ∧ R v x ∧ Each R p a ∧ Each R q b := by
  have hl := h.1
  rw [List.length_append, List.length_cons] at hl
  have hlt : p.length < xs.length := by omega
  obtain ⟨x, e1, e2⟩ := h.2 p.length v (by simp)
  refine ⟨xs.take p.length, x, xs.drop (p.length + 1), ?_, e2, ⟨by rw [List.length_take]; omega, fun i u e => ?_⟩, ⟨by rw [List.length_drop]; omega, fun i u e => ?_⟩⟩
  · have : x = xs[p.length] := by rw [List.getElem?_eq_getElem hlt] at e1; exact (Option.some.inj e1).symm
    rw [this, ← List.drop_eq_getElem_cons hlt, List.take_append_drop]
  · have hi := (List.getElem?_eq_some_iff.mp e).1
    obtain ⟨z, z1, z2⟩ := h.2 i u (by rw [List.getElem?_append_left hi]; exact e)
    exact ⟨z, by rw [List.getElem?_take_of_lt hi]; exact z1, z2⟩
  · obtain ⟨z, z1, z2⟩ := h.2 (p.length + 1 + i) u (by rw [List.getElem?_append_right (by omega), show p.length + 1 + i - p.length = i + 1 by omega]; exact e)
    exact ⟨z, by rw [List.getElem?_drop]; exact z1, z2⟩
end
section
section
open PySem.SeqAt PySem.Calls
variable {pg : Program} {w : World} {A : Around} {E : Value → Shared → Prop} {s : Shared} {h₀ : Heap} {L l b : Addr} {m : Str → Option Value} {news : Led} {vs : List Value} {n k : Nat}
theorem all_true {α : Type} (l : List α) : (l.all fun _ => true) = true := List.all_eq_true.mpr fun _ _ => rfl
theorem neSame {Q : Value → Shared → Prop} (N : News h₀ L s.heap news) (hm : (l, listO vs n) ∈ news) (hb : (b, listO vs k) ∈ news) (hu : A.units < cLine) (h : Q (.bool false) s) : wpAny (model pg w) A (compareOp .NotEq (.ref l) (.ref b)) Q E s :=
  RcNeAt.lists (e := fun _ => true) (isListN N hm) (isListN N hb) rfl hu (fun j h1 h2 => EqAt.same _) pg w E Q (by rw [all_true]; exact h)
theorem eqSameStr (x : Str) (t u : Tok) : EqAt A s (.str x t) (.str x u) true := by
  have := EqAt.str_str (A := A) (s := s) x t x u
  rwa [beq_self_eq_true] at this
theorem neRow {a b' : Str} {t1 t2 u1 u2 : Tok} {Q : Value → Shared → Prop} (N : News h₀ L s.heap news) (hm : (l, tupO [.str a t1, .str b' t2, .none, .bool false, .bool false, .none]) ∈ news) (hb : (b, tupO [.str a u1, .str b' u2, .none, .bool false, .bool false, .none]) ∈ news) (hu : A.units < cLine) (h : Q (.bool false) s) :
    wpAny (model pg w) A (compareOp .NotEq (.ref l) (.ref b)) Q E s := by
  refine RcNeAt.tuples (e := fun _ => true) ⟨_, (N _ hm).1, rfl, 0, rfl⟩ ⟨_, (N _ hb).1, rfl, 0, rfl⟩ hu (fun j h1 h2 => ?_) pg w E Q (by rw [all_true]; exact h)
  have hj : j < 6 := h1
  rcases (show j = 0 ∨ j = 1 ∨ j = 2 ∨ j = 3 ∨ j = 4 ∨ j = 5 by omega) with rfl | rfl | rfl | rfl | rfl | rfl
  · exact eqSameStr a t1 u1
  · exact eqSameStr b' t2 u2
  · exact EqAt.same _
  · exact EqAt.same _
  · exact EqAt.same _
  · exact EqAt.same _
theorem indexTexts {xs : List Str} {x : Str} {t : Tok} {i : Nat} {Q : Value → Shared → Prop} (N : News h₀ L s.heap news) (hm : (l, listO vs n) ∈ news) (hs : StrsAre vs xs) (hx : xs[i]? = some x) (hn : x ∉ xs.take i) (hz : vs.length ≤ 16777216)
    (h : Q (.int (i : Nat) s.toks) { s with toks := s.toks + 1 }) : wpAny (model pg w) A (call (.builtin "list.index") [.ref l, .str x t]) Q E s := by
  have hl := strs_len hs
  obtain ⟨hi, hxi⟩ := List.getElem?_eq_some_iff.mp hx
  have val : ∀ y ∈ vs, ∃ z u, y = Value.str z u := fun y hy => by
    obtain ⟨j, hj⟩ := List.getElem?_of_mem hy
    obtain ⟨z, u, e, _⟩ := strs_get hs j y hj
    exact ⟨z, u, e⟩
  refine call_meets PySem.F.slot_list_index ⟨_, (N _ hm).1, rfl⟩ PySem.F.entry_list_index (PySem.F.args_list_index_2 _ _)
    (list_indexAt l vs.toArray n none #[] (.str x t) (fun y => match y with | .str z _ => z == x | _ => false) i (by simp; omega) (by omega) ?_ (fun j hj hlt => ?_)) ⟨(N _ hm).1, fun y hy => ?_, h⟩
  · have h1 : i < vs.length := by omega
    obtain ⟨z, u, e1, e2⟩ := strs_get hs i _ (List.getElem?_eq_getElem h1)
    rw [hx] at e2; cases e2
    rw [List.getElem_toArray, e1]; exact beq_self_eq_true _
  · have h1 : j < vs.length := by simpa using hj
    obtain ⟨z, u, e1, e2⟩ := strs_get hs j _ (List.getElem?_eq_getElem h1)
    rw [List.getElem_toArray, e1]
    show (z == x) = false
    rw [beq_eq_false_iff_ne]
    rintro rfl
    exact hn (List.mem_of_getElem? (i := j) (by rw [List.getElem?_take_of_lt hlt]; exact e2))
  · obtain ⟨z, u, rfl⟩ := val y (by simpa using hy)
    exact EqAt.str_str z u x t
end
end
section
/-- the row of each name -/
def rowF (rs : List Row) : Str → Option Row := fun y => rs.find? fun r => decide (r.1 = y)
theorem rowF_nil : rowF [] = fun _ => none := rfl
theorem rowF_none {rs : List Row} {x : Str} (h : x ∉ rs.map (·.1)) : rowF rs x = none := List.find?_eq_none.mpr fun r hr => by
  simp only [decide_eq_true_eq]; exact fun e => h (List.mem_map.mpr ⟨r, hr, e⟩)
theorem rowF_some {rs : List Row} {x : Str} (h : x ∈ rs.map (·.1)) : ∃ r, rowF rs x = some r ∧ r ∈ rs ∧ r.1 = x := by
  cases hf : rowF rs x with
  | none =>
    obtain ⟨r, hr, e⟩ := List.mem_map.mp h
    exact absurd (List.find?_eq_none.mp hf r hr) (by simp [e])
  | some r => exact ⟨r, rfl, List.mem_of_find?_eq_some hf, by simpa using List.find?_some hf⟩
theorem rowF_snoc {rs : List Row} {r : Row} (h : r.1 ∉ rs.map (·.1)) : rowF (rs ++ [r]) = updF (rowF rs) r.1 r := by
  funext y
  unfold updF
  by_cases e : y = r.1
  · subst e
    rw [if_pos rfl]
    unfold rowF
    rw [List.find?_append, show rs.find? (fun q => decide (q.1 = r.1)) = none from rowF_none h]
    simp
  · rw [if_neg e]
    unfold rowF
    rw [List.find?_append]
    have : ([r].find? fun q => decide (q.1 = y)) = none := by simp [Ne.symm e]
    rw [this, Option.or_none]
/-- what each name uses -/
def useF (rs : List Row) : Str → Option (List Str) := fun y => (rowF rs y).map needs
theorem useF_snoc {rs : List Row} {r : Row} (h : r.1 ∉ rs.map (·.1)) : useF (rs ++ [r]) = updF (useF rs) r.1 (needs r) := by
  funext y
  unfold useF updF
  rw [rowF_snoc h]
  unfold updF
  by_cases e : y = r.1
  · rw [if_pos e, if_pos e]; rfl
  · rw [if_neg e, if_neg e]
def useOf (rs : List Row) (y : Str) : List Str := (useF rs y).getD []
/-- all groups, and each name in one -/
def Grouped (rows : List Row) (S : TS) : Prop := ∃ r0, PInv (rows.map (·.1)) (fun y => (useOf rows y).filter fun o => decide (o ∈ rows.map (·.1))) r0 S ∧ S.stk = [] ∧ ∀ y ∈ rows.map (·.1), (S.num y).isSome
def isRound (rows : List Row) (g : List Str) : Prop := 1 < g.length ∨ ∃ x, g = [x] ∧ x ∈ useOf rows x
def Bad (rows : List Row) : Prop := ¬ (rows.map (·.1)).Nodup ∨ ∃ S, Grouped rows S ∧ ∃ g ∈ S.fnd, isRound rows g
theorem Each.cons {α : Type} {R : Value → α → Prop} {vs : List Value} {xs : List α} {v : Value} {x : α} (h : Each R vs xs) (hv : R v x) : Each R (v :: vs) (x :: xs) := by
  refine ⟨by simp [h.1], fun i u e => ?_⟩
  cases i with
  | zero => simp at e; subst e; exact ⟨x, rfl, hv⟩
  | succ i => exact h.2 i u (by simpa using e)
theorem useF_at {rows : List Row} {y : Str} (h : y ∈ rows.map (·.1)) : useF rows y = some (useOf rows y) := by
  obtain ⟨r, hr, _⟩ := rowF_some h
  unfold useOf useF
  rw [hr]; rfl
theorem useOf_len {rows : List Row} (hsh : ∀ r ∈ rows, r.2.length ≤ 7) {y : Str} (h : y ∈ rows.map (·.1)) : (useOf rows y).length ≤ 20 := by
  obtain ⟨r, hr, hm, _⟩ := rowF_some h
  have e := useF_at h
  unfold useF at e
  rw [hr] at e
  have := needs_len r
  have := hsh r hm
  have e' : needs r = useOf rows y := Option.some.inj e
  rw [← e']; omega
theorem join_lim {names g : List Str} (hl : g.length ≤ 7) (hn : ∀ z ∈ g, z.length ≤ 100) : (g.map (·.length)).sum ≤ 700 := by
  have : ∀ (l : List Str), (∀ z ∈ l, z.length ≤ 100) → (l.map (·.length)).sum ≤ 100 * l.length := by
    intro l
    induction l with
    | nil => intro _; simp
    | cons a r ih =>
      intro h
      have h1 := h a (.head _)
      have h2 := ih fun z hz => h z (.tail _ hz)
      simp only [List.map_cons, List.sum_cons, List.length_cons]
      omega
  have := this g hn
  omega
end
section
local macro_rules | `(tactic| k_mem) => `(tactic| assumption)
local macro_rules | `(tactic| walk_at "my_skip") => `(tactic| first | exact sub_refl | (refine sub_skip ?_; walk_at "my_skip"))
local macro_rules | `(tactic| walk_at "my_sub") => `(tactic| (first | walk_at "my_skip" | exact sub_nil | (refine sub_cons (by k_mem) ?_; walk_at "my_sub")))
abbrev dEnt (w : World) (x : String) (t : Tok) (v : Value) : DictEntry := ⟨PyData.keyHash w.params (Str.ofString x), .str (Str.ofString x) t, v⟩
/-- the attributes of a Walker -/
abbrev wkO (w : World) (t0 t1 t2 t3 t4 t5 : Tok) (ud nd ld op id fd : Addr) : Obj := dictOf [dEnt w "uses" t0 (.ref ud), dEnt w "numbers" t1 (.ref nd), dEnt w "lows" t2 (.ref ld), dEnt w "open" t3 (.ref op), dEnt w "is_open" t4 (.ref id), dEnt w "found" t5 (.ref fd)] 6
/-- where a Walker's parts lie -/
structure WOrd (dx x nd ld op id fd : Nat) : Prop where
  a : dx < x
  b : x < nd
  c : nd < ld
  d : ld < op
  e : op < id
  f : id < fd
abbrev WK (w : World) (t0 t1 t2 t3 t4 t5 : Tok) (ud dx x nd ld op id fd : Addr) (o1 o2 : Obj) (ovs : List Value) (n3 : Nat) (o4 o5 : Obj) (R : Led) : Led :=
  (x, instObj 92 dx) :: (dx, wkO w t0 t1 t2 t3 t4 t5 ud nd ld op id fd) :: (nd, o1) :: (ld, o2) :: (op, listO ovs n3) :: (id, o4) :: (fd, o5) :: R
abbrev wAddrs (dx x nd ld op id fd : Addr) : List Addr := [x, dx, nd, ld, op, id, fd]
structure WOff (dx x nd ld op id fd : Addr) (R : Led) : Prop where
  a : ∀ p ∈ R, p.1 ≠ x
  b : ∀ p ∈ R, p.1 ≠ dx
  c : ∀ p ∈ R, p.1 ≠ nd
  d : ∀ p ∈ R, p.1 ≠ ld
  e : ∀ p ∈ R, p.1 ≠ op
  f : ∀ p ∈ R, p.1 ≠ id
  g : ∀ p ∈ R, p.1 ≠ fd
structure WLo (nd ld id : Addr) : Prop where
  a : (nd == sysModules) = false
  b : (ld == sysModules) = false
  c : (id == sysModules) = false
/-- the dicts of a Walker -/
structure WD (w : World) (o1 o2 o4 : Obj) (kv1 kv2 kv4 : List (Str × Value)) : Prop where
  a : o1.IsDictOf (PySem.strKind prg w) kv1
  b : o2.IsDictOf (PySem.strKind prg w) kv2
  c : o4.IsDictOf (PySem.strKind prg w) kv4
  la : kv1.length ≤ 1000
  lb : kv2.length ≤ 1000
  lc : kv4.length ≤ 1000
def noneH : Option Value → Heap → Prop := fun hh _ => hh = none
theorem newsMove {h₀ h : Heap} {L : Addr} {f a b c d e g i j : Addr × Obj} {R : Led} (N : News h₀ L h (f :: a :: b :: c :: d :: e :: g :: i :: j :: R)) : News h₀ L h (a :: b :: c :: d :: e :: g :: i :: j :: f :: R) := News.sub N fun p hp => by
  revert p hp; walk_at "my_sub"
theorem newsMove7 {h₀ h : Heap} {L : Addr} {f a b c d e g i : Addr × Obj} {R : Led} (N : News h₀ L h (f :: a :: b :: c :: d :: e :: g :: i :: R)) : News h₀ L h (a :: b :: c :: d :: e :: g :: i :: f :: R) := News.sub N fun p hp => by
  revert p hp; walk_at "my_sub"
/-- a frame of the walk: a name and how far its uses are looked at; R is what was there before -/
inductive FrameIn (R K : Led) (v : Value) (p : Str × Nat) : Prop where
  | mk (a : Addr) (t t' : Tok) (n : Nat) (e : v = .ref a) (h : (a, listO [.str p.1 t, .int (p.2 : Nat) t'] n) ∈ K) (off : ∀ q ∈ R, q.1 ≠ a) : FrameIn R K v p
structure WS (w : World) (S : TS) (o1 o2 o4 : Obj) (kv1 kv2 kv4 : List (Str × Value)) (ovs fvs : List Value) (R : Led) : Prop where
  d : WD w o1 o2 o4 kv1 kv2 kv4
  l1 : kv1.length = S.cnt
  l2 : kv2.length = S.cnt
  l4 : kv4.length = S.cnt
  num : KVR isNat kv1 S.num
  low : KVR isNat kv2 S.low
  iso : KVR isBool kv4 S.isO
  opn : StrsAre ovs S.opn
  fnd : Each (TextsIn R) fvs S.fnd
/-- the names and what each uses -/
structure WUse (w : World) (names : List Str) (G : Str → List Str) (ud : Addr) (uo : Obj) (ukvs : List (Str × Value)) (R : Led) : Prop where
  nd : names.Nodup
  cl : ∀ x ∈ names, ∀ o ∈ G x, o ∈ names
  m : (ud, uo) ∈ R
  d : uo.IsDictOf (PySem.strKind prg w) ukvs
  lo : (ud == sysModules) = false
  u : ∀ y ∈ names, ∃ v, valueAt ukvs y = some v ∧ TextsIn R v (G y)
  sz : names.length ≤ 900
  gz : ∀ y ∈ names, (G y).length ≤ 900
theorem each_last {α : Type} {P : Value → α → Prop} {vs : List Value} {xs : List α} {x : α} (h : Each P vs (xs ++ [x])) : ∃ us v, vs = us ++ [v] ∧ P v x ∧ Each P us xs := by
  rcases List.eq_nil_or_concat vs with e | ⟨us, v, e⟩
  · subst e; have := h.1; simp at this
  · rw [List.concat_eq_append] at e
    subst e
    have hl : us.length = xs.length := by have := h.1; simpa using this
    obtain ⟨y, h1, h2⟩ := h.2 us.length v (by simp)
    rw [hl] at h1
    have : x = y := by simpa using h1
    subst this
    refine ⟨us, v, rfl, h2, hl, fun i u e => ?_⟩
    have hi := (List.getElem?_eq_some_iff.mp e).1
    obtain ⟨z, z1, z2⟩ := h.2 i u (by rw [List.getElem?_append_left hi]; exact e)
    exact ⟨z, by rw [List.getElem?_append_left (by omega)] at z1; exact z1, z2⟩
theorem frameMono {R K K' : Led} {v : Value} {p : Str × Nat} (h : FrameIn R K v p) (k : ∀ q ∈ K, q ∈ K') : FrameIn R K' v p := let ⟨a, t, t', n, e, m, o⟩ := h; ⟨a, t, t', n, e, k _ m, o⟩
abbrev setM (M : Str → Option Value) (x : Str) (v : Option Value) : Str → Option Value := fun y => if y = x then v else M y
/-- the top frame set apart -/
theorem pullTop {h₀ h : Heap} {L : Addr} {nw R R' : Led} {us : List Value} {x : Str} {k : Nat} {rest : List (Str × Nat)} {v : Value} {fnd : List (List Str)} {fvs : List Value} (N : News h₀ L h nw) (hsub : ∀ p ∈ R', p ∈ nw) (hG : Grown R R') (hv : FrameIn R R' v (x, k)) (hus : Each (FrameIn R R') us rest.reverse)
    (hd : ∀ p ∈ rest, p.1 ≠ x) (hf : Each (TextsIn R') fvs fnd) :
    ∃ fa t t' n R'', v = .ref fa ∧ (fa, listO [.str x t, .int (k : Nat) t'] n) ∈ R' ∧ (∀ q ∈ R, q.1 ≠ fa) ∧ R'' = R'.filter (fun p => decide (p.1 ≠ fa)) ∧ (∀ p ∈ R'', p ∈ R') ∧ (∀ p ∈ R'', p.1 ≠ fa) ∧ Grown R R'' ∧ Each (FrameIn R R'') us rest.reverse ∧ Each (TextsIn R'') fvs fnd := by
  obtain ⟨fa, t, t', n, e, hm, hoff⟩ := hv
  have hmem : ∀ p ∈ R', p.1 ≠ fa → p ∈ R'.filter (fun p => decide (p.1 ≠ fa)) := fun p hp q => List.mem_filter.mpr ⟨hp, decide_eq_true q⟩
  refine ⟨fa, t, t', n, _, e, hm, hoff, rfl, fun p hp => (List.mem_filter.mp hp).1, fun p hp => of_decide_eq_true (List.mem_filter.mp hp).2, ⟨fun p hp => hmem p (hG.1 p hp) (hoff p hp), fun p hp => hG.2 p (List.mem_filter.mp hp).1⟩, ⟨hus.1, fun i u hu => ?_⟩, hf.mono fun u xs hu => ?_⟩
  · obtain ⟨p, hp, b, s, s', n', e', hb, ho⟩ := hus.2 i u hu
    refine ⟨p, hp, b, s, s', n', e', hmem _ hb fun q => ?_, ho⟩
    have hu := News.uniq N (hsub _ hb) (hsub _ hm) q
    have hpm := hd p (List.mem_reverse.mp (List.mem_of_getElem? hp))
    simp only [seqO, Obj.mk.injEq, Data.seq.injEq] at hu
    have he := hu.2.2.1.1
    simp only [List.toArray_inj, Array.mk.injEq, List.cons.injEq, Value.str.injEq] at he
    exact hpm he.1.1
  · obtain ⟨l, vs, n', e', hl, hs⟩ := hu
    refine ⟨l, vs, n', e', hmem _ hl fun q => ?_, hs⟩
    have hu := News.uniq N (hsub _ hl) (hsub _ hm) q
    simp only [seqO, Obj.mk.injEq, Data.seq.injEq] at hu
    have hv : vs = [.str x t, .int (k : Nat) t'] := by have := hu.2.2.1.1; simpa using this
    subst hv
    cases hs with | cons _ _ r => cases r
theorem WS.mono {w : World} {S : TS} {o1 o2 o4 : Obj} {kv1 kv2 kv4 : List (Str × Value)} {ovs fvs : List Value} {R R' : Led} (h : WS w S o1 o2 o4 kv1 kv2 kv4 ovs fvs R) (k : Each (TextsIn R') fvs S.fnd) : WS w S o1 o2 o4 kv1 kv2 kv4 ovs fvs R' := ⟨h.d, h.l1, h.l2, h.l4, h.num, h.low, h.iso, h.opn, k⟩
theorem WOff.sub {dx x nd ld op id fd : Addr} {R R' : Led} (h : WOff dx x nd ld op id fd R) (k : ∀ p ∈ R', p ∈ R) : WOff dx x nd ld op id fd R' := ⟨fun p q => h.a p (k p q), fun p q => h.b p (k p q), fun p q => h.c p (k p q), fun p q => h.d p (k p q), fun p q => h.e p (k p q), fun p q => h.f p (k p q), fun p q => h.g p (k p q)⟩
theorem WOff.cons {dx x nd ld op id fd a : Addr} {o : Obj} {R : Led} (h : WOff dx x nd ld op id fd R) (h1 : a ≠ x) (h2 : a ≠ dx) (h3 : a ≠ nd) (h4 : a ≠ ld) (h5 : a ≠ op) (h6 : a ≠ id) (h7 : a ≠ fd) : WOff dx x nd ld op id fd ((a, o) :: R) := ⟨ne_cons h1 h.a, ne_cons h2 h.b, ne_cons h3 h.c, ne_cons h4 h.d, ne_cons h5 h.e, ne_cons h6 h.f, ne_cons h7 h.g⟩
theorem WOrd.off {dx x nd ld op id fd : Nat} (h : WOrd dx x nd ld op id fd) {sk : Nat} (k : fd < sk) : sk ≠ x ∧ sk ≠ dx ∧ sk ≠ nd ∧ sk ≠ ld ∧ sk ≠ op ∧ sk ≠ id ∧ sk ≠ fd := by
  obtain ⟨a, b, c, d, e, f⟩ := h; omega
theorem WOff.new {dx x nd ld op id fd a : Addr} {o : Obj} {R : Led} (h : WOff dx x nd ld op id fd R) (O : WOrd dx x nd ld op id fd) (k : @LT.lt Nat _ fd a) : WOff dx x nd ld op id fd ((a, o) :: R) := by
  obtain ⟨h1, h2, h3, h4, h5, h6, h7⟩ := O.off k
  exact h.cons h1 h2 h3 h4 h5 h6 h7
theorem PInv.cntLe {names : List Str} {G : Str → List Str} {r0 : Nat} {S : TS} (h : PInv names G r0 S) : S.cnt ≤ names.length := by have := h.cntU; omega
theorem nodup_le : ∀ {l l' : List Str}, l.Nodup → (∀ x ∈ l, x ∈ l') → l.length ≤ l'.length
  | [], _, _, _ => Nat.zero_le _
  | a :: r, l', hn, hs => by
    rw [List.nodup_cons] at hn
    have h1 : a ∈ l' := hs a (.head _)
    have h2 := nodup_le (l := r) (l' := l'.erase a) hn.2 fun x hx => (List.mem_erase_of_ne (fun q : x = a => hn.1 (q ▸ hx))).mpr (hs x (.tail _ hx))
    have h3 := List.length_erase_of_mem h1
    have h4 := List.length_pos_of_mem h1
    rw [List.length_cons]; omega
theorem PInv.opnLen {names : List Str} {G : Str → List Str} {r0 : Nat} {S : TS} (h : PInv names G r0 S) : S.opn.length ≤ names.length :=
  nodup_le h.opnN fun x hx => by obtain ⟨i, l, e, _⟩ := h.opnNum hx; exact (h.inn x i e).1
theorem PInv.fndLen {names : List Str} {G : Str → List Str} {r0 : Nat} {S : TS} (h : PInv names G r0 S) : S.fnd.length ≤ names.length := by
  have h1 : S.fnd.flatten.length ≤ names.length := nodup_le h.fndN fun x hx => by
    obtain ⟨g, hg, hx⟩ := List.mem_flatten.mp hx
    have h1 := (h.fndI x).mpr ⟨g, hg, hx⟩
    have h2 := h.isoS x
    rw [h1] at h2
    obtain ⟨i, hi⟩ := Option.isSome_iff_exists.mp h2.symm
    exact (h.inn x i hi).1
  have : ∀ l : List (List Str), (∀ g ∈ l, g ≠ []) → l.length ≤ l.flatten.length := by
    intro l
    induction l with
    | nil => intro _; exact Nat.le_refl _
    | cons a r ih =>
      intro hl
      have := ih fun g hg => hl g (.tail _ hg)
      have ha := List.length_pos_iff.mpr (hl a (.head _))
      rw [List.flatten_cons, List.length_append, List.length_cons]; omega
  exact Nat.le_trans (this _ h.fndE) h1
theorem PInv.stkLen {names : List Str} {G : Str → List Str} {r0 : Nat} {S : TS} (h : PInv names G r0 S) : S.stk.length ≤ names.length := by
  rw [← List.length_map (f := fun p : Str × Nat => p.1)]
  refine nodup_le ?_ fun x hx => ?_
  · rw [List.Nodup, List.pairwise_map]
    exact h.stkP.imp fun {a b} ⟨i, j, e1, e2, (e3 : (j : Nat) < i)⟩ q => by rw [q, e2] at e1; cases e1; exact Nat.lt_irrefl _ e3
  · obtain ⟨p, hp, rfl⟩ := List.mem_map.mp hx
    obtain ⟨i, l, e, _⟩ := h.opnNum (h.stkI p hp).1
    exact (h.inn _ i e).1
theorem PInv.topNe {names : List Str} {G : Str → List Str} {r0 : Nat} {S : TS} (h : PInv names G r0 S) {x : Str} {k : Nat} {rest : List (Str × Nat)} (hs : S.stk = (x, k) :: rest) : ∀ p ∈ rest, p.1 ≠ x := fun p hp q => by
  have h1 := h.stkP
  rw [hs, List.pairwise_cons] at h1
  obtain ⟨i, j, e1, e2, e3⟩ := h1.1 p hp
  rw [q] at e2
  dsimp only at e1
  rw [e1] at e2; cases e2; exact Nat.lt_irrefl _ e3
theorem named2 {fa sk : Nat} {X : Led} (h : fa < sk ∧ AllLt sk X) : ∃ f s : Nat, f = fa ∧ s = sk ∧ (f < s ∧ AllLt s X) := ⟨fa, sk, rfl, rfl, h⟩
theorem isNatOf {n : Nat} (t : Tok) : isNat n (.int (n : Nat) t) := ⟨t, rfl⟩
theorem newsMoveB {h₀ h : Heap} {L : Addr} {s f a b c d e g i : Addr × Obj} {R : Led} (N : News h₀ L h (s :: f :: a :: b :: c :: d :: e :: g :: i :: R)) : News h₀ L h (a :: b :: c :: d :: e :: g :: i :: s :: f :: R) := News.sub N fun p hp => by
  revert p hp; walk_at "my_sub"
theorem enterWS {w : World} {S : TS} {o1 o2 o4 o1' o2' o4' : Obj} {kv1 kv2 kv4 : List (Str × Value)} {ovs fvs : List Value} {R : Led} (W : WS w S o1 o2 o4 kv1 kv2 kv4 ovs fvs R) (hc : S.cnt ≤ 950) {x : Str} {t u1 u2 : Tok} (hn : S.num x = none) (hl : (S.low x).isSome = (S.num x).isSome) (hi : (S.isO x).isSome = (S.num x).isSome)
    (e1 : o1'.IsDictOf (PySem.strKind prg w) (stored kv1 x (.int (kv1.length : Nat) u1))) (e2 : o2'.IsDictOf (PySem.strKind prg w) (stored kv2 x (.int (kv1.length : Nat) u2))) (e4 : o4'.IsDictOf (PySem.strKind prg w) (stored kv4 x (.bool true))) (stk : List (Str × Nat)) :
    WS w (enterP S x stk) o1' o2' o4' (stored kv1 x (.int (kv1.length : Nat) u1)) (stored kv2 x (.int (kv1.length : Nat) u2)) (stored kv4 x (.bool true)) (ovs ++ [.str x t]) fvs R := by
  obtain ⟨wd, wl1, wl2, wl4, wn, wlo, wi, wo, wf⟩ := W
  rw [hn] at hl hi
  have n1 := wn.none hn
  have n2 := wlo.none (by simpa using hl)
  have n4 := wi.none (by simpa using hi)
  have l1 : (stored kv1 x (.int (kv1.length : Nat) u1)).length = S.cnt + 1 := by rw [stored_new n1]; simp [wl1]
  have l2 : (stored kv2 x (.int (kv1.length : Nat) u2)).length = S.cnt + 1 := by rw [stored_new n2]; simp [wl2]
  have l4 : (stored kv4 x (.bool true)).length = S.cnt + 1 := by rw [stored_new n4]; simp [wl4]
  refine ⟨⟨e1, e2, e4, by omega, by omega, by omega⟩, l1, l2, l4, wn.put ?_, wlo.put ?_, wi.put rfl, strsCat wo (.cons _ _ .nil), wf⟩
  · rw [wl1]; exact ⟨_, rfl⟩
  · rw [wl1]; exact ⟨_, rfl⟩
theorem setM_self (M : Str → Option Value) (x : Str) : setM M x (M x) = M := by funext y; by_cases h : y = x <;> simp [setM, h]
theorem setM3 (M : Str → Option Value) (a b c : Str) (u1 u2 u3 v1 v2 v3 : Option Value) :
    setM (setM (setM (setM (setM (setM M a u1) b u2) c u3) a v1) b v2) c v3 = setM (setM (setM M a v1) b v2) c v3 := by
  funext y
  simp only [setM]
  by_cases h3 : y = c
  · simp [h3]
  · by_cases h2 : y = b
    · simp [h2]
    · by_cases h1 : y = a
      · simp [h1]
      · simp [h1, h2, h3]
theorem kvrGet {β : Type} {R : β → Value → Prop} {kvs : List (Str × Value)} {f : Str → Option β} {k : Str} {v : Value} (h : KVR R kvs f) (e : valueAt kvs k = some v) : ∃ b, f k = some b ∧ R b v := by
  cases q : f k with
  | none => rw [h.none q] at e; cases e
  | some b => obtain ⟨u, e1, e2⟩ := h.some q; rw [e] at e1; cases e1; exact ⟨b, rfl, e2⟩
theorem updF_same {β : Type} {f : Str → Option β} {x : Str} {b : β} (h : f x = some b) : updF f x b = f := by
  funext y; unfold updF; by_cases q : y = x
  · rw [if_pos q, q, h]
  · rw [if_neg q]
theorem isNat_min (a b : Nat) (t : Tok) : isNat (if b < a then b else a) (.int (if (b : Int) < (a : Int) then (b : Int) else (a : Int)) t) := by
  refine ⟨t, ?_⟩
  by_cases h : b < a
  · rw [if_pos h, if_pos (by omega)]
  · rw [if_neg h, if_neg (by omega)]
theorem lowWS {w : World} {S : TS} {o1 o2 o4 o2' : Obj} {kv1 kv2 kv4 : List (Str × Value)} {ovs fvs : List Value} {R : Led} (W : WS w S o1 o2 o4 kv1 kv2 kv4 ovs fvs R) {x : Str} {l a : Nat} {v : Value} (ha : S.low x = some a) (hv : isNat l v) (e2 : o2'.IsDictOf (PySem.strKind prg w) (stored kv2 x v)) (stk : List (Str × Nat)) :
    WS w (lowP S x l stk) o1 o2' o4 kv1 (stored kv2 x v) kv4 ovs fvs R := by
  obtain ⟨wd, wl1, wl2, wl4, wn, wlo, wi, wo, wf⟩ := W
  obtain ⟨u, hu, _⟩ := wlo.some ha
  have hl : (stored kv2 x v).length = S.cnt := by rw [stored_old_len hu]; exact wl2
  exact ⟨⟨wd.a, e2, wd.c, wd.la, by have := wd.lb; omega, wd.lc⟩, wl1, hl, wl4, wn, wlo.put hv, wi, wo, wf⟩
theorem sameWS {w : World} {S : TS} {o1 o2 o4 : Obj} {kv1 kv2 kv4 : List (Str × Value)} {ovs fvs : List Value} {R : Led} (W : WS w S o1 o2 o4 kv1 kv2 kv4 ovs fvs R) {x : Str} {a : Nat} (ha : S.low x = some a) (stk : List (Str × Nat)) :
    WS w (lowP S x a stk) o1 o2 o4 kv1 kv2 kv4 ovs fvs R := by
  obtain ⟨wd, wl1, wl2, wl4, wn, wlo, wi, wo, wf⟩ := W
  exact ⟨wd, wl1, wl2, wl4, wn, by show KVR isNat kv2 (updF S.low x a); rw [updF_same ha]; exact wlo, wi, wo, wf⟩
theorem eachSnoc2 {R R2 : Led} {fb : Addr} {ob : Obj} {us : List Value} {xs : List (Str × Nat)} {p : Str × Nat} (E : Each (FrameIn R R2) us xs) (h : FrameIn R ((fb, ob) :: R2) (.ref fb) p) : Each (FrameIn R ((fb, ob) :: R2)) (us ++ [.ref fb]) (xs ++ [p]) := (E.mono fun _ _ z => frameMono z fun _ hp => .tail _ hp).snoc h
theorem popWS {w : World} {S : TS} {o1 o2 o4 o4' : Obj} {kv1 kv2 kv4 kv4' : List (Str × Value)} {ovs fvs pvs gvs : List Value} {R R' : Led} (W : WS w S o1 o2 o4 kv1 kv2 kv4 ovs fvs R) {pre g : List Str} {ga : Addr} {n : Nat} (hp : StrsAre pvs pre) (hg : StrsAre gvs g.reverse)
    (hd : o4'.IsDictOf (PySem.strKind prg w) kv4') (hl : kv4'.length = kv4.length) (hk : KVR isBool kv4' (offF S.isO g)) (hf : Each (TextsIn R') fvs S.fnd) (hm : (ga, listO gvs n) ∈ R') (stk : List (Str × Nat)) :
    WS w (popP S pre g stk) o1 o2 o4' kv1 kv2 kv4' pvs (fvs ++ [.ref ga]) R' := by
  obtain ⟨wd, wl1, wl2, wl4, wn, wlo, wi, wo, wf⟩ := W
  exact ⟨⟨wd.a, wd.b, hd, wd.la, wd.lb, by rw [hl]; exact wd.lc⟩, wl1, wl2, by show kv4'.length = S.cnt; rw [hl]; exact wl4, wn, wlo, hk, hp, hf.snoc ⟨ga, gvs, n, rfl, hm, hg⟩⟩
theorem lowWSsame {w : World} {S : TS} {o1 o2 o4 o2' : Obj} {kv1 kv2 kv4 : List (Str × Value)} {ovs fvs : List Value} {R : Led} (W : WS w S o1 o2 o4 kv1 kv2 kv4 ovs fvs R) {x : Str} {l : Nat} {v : Value} (ha : S.low x = some l) (hv : isNat l v) (e2 : o2'.IsDictOf (PySem.strKind prg w) (stored kv2 x v)) :
    WS w S o1 o2' o4 kv1 (stored kv2 x v) kv4 ovs fvs R := by
  obtain ⟨wd, wl1, wl2, wl4, wn, wlo, wi, wo, wf⟩ := W
  obtain ⟨u, hu, _⟩ := wlo.some ha
  have hl : (stored kv2 x v).length = S.cnt := by rw [stored_old_len hu]; exact wl2
  exact ⟨⟨wd.a, e2, wd.c, wd.la, by have := wd.lb; omega, wd.lc⟩, wl1, hl, wl4, wn, updF_same ha ▸ wlo.put hv, wi, wo, wf⟩
theorem newsSwap {h₀ h : Heap} {L : Addr} {a b c d e g i u v : Addr × Obj} {R : Led} (N : News h₀ L h (a :: b :: c :: d :: e :: g :: i :: u :: v :: R)) : News h₀ L h (a :: b :: c :: d :: e :: g :: i :: v :: u :: R) := News.sub N fun p hp => by
  revert p hp; walk_at "my_sub"
theorem isNat_min' {a b c : Nat} (h : (if b < a then b else a) = c) (t : Tok) : isNat c (.int (if (b : Int) < (a : Int) then (b : Int) else (a : Int)) t) := by
  have := isNat_min a b t
  rw [h] at this; exact this
end
local macro_rules | `(tactic| walk_at "my_letx") => `(tactic| (refine letX ?_; intro Mz ez Az; with_reducible rename Fr _ _ _ _ => kFz; refine letF kFz ?_; clear kFz; intro mz kFz))
local macro_rules | `(tactic| k_all) => `(tactic| assumption)
local macro_rules | `(tactic| k_all) => `(tactic| exact allLt_ne (by assumption))
local macro_rules | `(tactic| k_mem) => `(tactic| assumption)
local macro_rules | `(tactic| walk_at "my_small") => `(tactic| (refine line_small ?_; first | omega | ((simp only [List.length_cons, List.length_nil, List.length_append] at *); omega)))
local macro_rules | `(tactic| walk_at "my_room") => `(tactic| first | (dsimp only; omega) | (simp +zetaDelta only [depth_under_make, depth_under_kw, depth_in1, depth_deeper]; (try dsimp only); omega))
local macro_rules | `(tactic| walk_at "my_enter") => `(tactic| (refine' code_def ?k1 ?k2 ?k3 ?k4 ?k5 ?kA ?kF ?kK ?k6 ?k7 ?k8 ?k9 ?kB ?_ ?c2 ?c3 ?c4 ?c5; (case kA => exact rfl); (case kF => first | assumption | exact rfl); (case kK => first | assumption | exact rfl); (case k1 => k_asm); (case k2 => k_asm); (case k3 => k_asm); (case k4 => k_asm); (case k5 => k_asm); (case k6 => k_is); (case k7 => k_is); (case k8 => walk_at "my_room"); (case k9 => first | exact BindsTo.of_eq rfl | exact binds_K (by k_in) rfl (by k_is) rfl rfl rfl); (case c5 => decide); (case kB => exact locs rfl); (case c2 => exact rfl); (case c3 => exact rfl); (case c4 => exact rfl); k_whole; intro g' L' h' FG' F' N' B' X' T'; (try (have hHg' := HOk.keeps (by assumption) (Fr.keep FG'))); (try dsimp only); (try k_fold); walk_at "my_letx"))
local macro_rules | `(tactic| walk_at "my_grown") => `(tactic| first | assumption | exact Grown.refl | (refine Grown.cons (by walk_at "my_ne") ?_; walk_at "my_grown"))
local macro_rules | `(tactic| walk_at "my_use") => `(tactic| (refine' CallSpec.use ?kS (by with_unfolding_all rfl) ?kB ?kF ?kX ?kN ?kT ?kf ?kk ?kH ?kd ?ku ?_; (case kN => k_asm); (case kB => k_asm); (case kF => k_asm); (case kX => k_asm); (case kT => k_asm)))
local macro_rules | `(tactic| walk_at "my_used") => `(tactic| ((case kf => first | rfl | assumption); (case kk => first | rfl | assumption); (case kH => first | exact rfl | assumption | exact True.intro); (case kd => (dsimp +zetaDelta only [Around.deeper, Around.in1]; omega)); (case ku => (dsimp +zetaDelta only [Around.deeper, Around.in1]; omega)); k_whole; intro v' h' tk' news' F' N' hP'))
local macro_rules | `(tactic| walk_at "my_ne") => `(tactic| first | assumption | exact allLt_ne (by assumption) | exact lt_ne (by assumption) | exact off1_ne (by assumption) | exact allLt_ne (And.right (by assumption)) | exact allLt_ne (And.right (And.right (by assumption))) | exact allLt_ne (And.right (And.right (And.right (by assumption)))))
local macro_rules | `(tactic| walk_at "my_go") => `(tactic| ((try refine strip ?_); (try dsimp only); k_steps))
local macro_rules | `(tactic| walk_at "my_cls") => `(tactic| (refine' call_cls ?k1 ?k2 ?k3 ?k4 ?k5 ?k6 ?_; (case k1 => k_asm); (case k2 => k_asm); (case k3 => k_asm); (case k4 => k_is); (case k5 => k_is); (case k6 => k_is); k_whole; intro x' d' h' F' N' l1 l2; (try k_lt l1); (try k_lt2 l2); (try k_sweep); walk_at "my_enter"))
local macro_rules | `(tactic| walk_at "my_usedH") => `(tactic| (walk_at "my_used"; refine halt ?_))
local macro_rules | `(tactic| walk_at "execs cons") => `(tactic| (k_here; (first | (with_reducible refine execsOneG ?_; intro tk) | (with_reducible refine execsMoreG ?_; intro qk tk)); (try dsimp only)))
local macro_rules | `(tactic| k_unfold) => `(tactic| with_reducible first | refine Cont.go ?_ | refine Cont.ret ?_)
local macro_rules | `(tactic| walk_at "my_skip") => `(tactic| first | exact sub_refl | (refine sub_skip ?_; walk_at "my_skip"))
local macro_rules | `(tactic| walk_at "my_sub") => `(tactic| (first | walk_at "my_skip" | exact sub_nil | (refine sub_cons (by k_mem) ?_; walk_at "my_sub")))
local macro_rules | `(tactic| walk_at "storeName") => `(tactic| (k_here; k_dflt (refine' storeLetL ?F ?N ?_ ?a ?b; (case F => k_asm); (case N => k_asm); (case a => rfl); (case b => rfl); k_whole; intro h' mz F' N'; (try k_sweep))))
theorem fillM1 (P : Params) : hd.heap_39 P = hd.heap_39 P ∧ PySem.Challenge.rw_og0003_01.name = PySem.Challenge.rw_og0003_01.name := by
  k_fill
  exact ⟨rfl, rfl⟩
local macro_rules | `(tactic| walk_at "compareOp In str ref") => `(tactic| (k_here; k_dflt (refine inTexts (by k_asm) (by k_mem) (by k_asm) ?_)))
local macro_rules | `(tactic| walk_at "compareOp NotIn str ref") => `(tactic| (k_here; k_dflt (refine notinTexts (by k_asm) (by k_mem) (by k_asm) ?_)))
local macro_rules | `(tactic| walk_at "binaryOp Add ref ref") => `(tactic| (k_here; k_dflt (refine addLists (by k_asm) (by k_asm) (by k_mem) (by k_mem) (by walk_at "my_small") ?_); intro D' h' F' N' l1; (try k_lt l1); (try k_sweep)))
local macro_rules | `(tactic| walk_at "eval ListComp") => `(tactic| (k_here; first
  | ((with_reducible show wpAny _ _ (eval (Expr.ListComp _ [Comprehension.mk _ _ [] _] _ _) _) _ _ _); k_dflt (refine evalComp (F₀ := by k_asm) (by with_unfolding_all rfl) (by decide) (by rfl) (by decide) (by rfl) ?_))
  | ((with_reducible show wpAny _ _ (eval (Expr.ListComp _ [Comprehension.mk _ _ [_] _] _ _) _) _ _ _); k_dflt (refine evalCompT (F₀ := by k_asm) (by with_unfolding_all rfl) (by decide) (by rfl) (by decide) (by rfl) ?_))))
local macro_rules | `(tactic| walk_at "exec Assign cons ListComp") => `(tactic| (k_here; k_dflt (refine assignComp (F₀ := by k_asm) (by rfl) (by with_unfolding_all rfl) (by with_unfolding_all rfl) (by decide) (by rfl) (by decide) (by rfl) (by rfl) (by rfl) ?_)))
section
abbrev srcO (x y : Int) (t u : Tok) (n : Nat) : Obj := seqO "list" [.int x t, .int y u] n
structure SrcOk (x y : Int) : Prop where
  y0 : 0 ≤ y
  y1 : y < 2147483647
theorem gd0 (x y : Int) : [x, y].getD (Int.toNat 0) 0 = x := rfl
theorem gd1 (x y : Int) : [x, y].getD (Int.toNat 1) 0 = y := rfl
theorem bits_small {y : Int} (h0 : 0 ≤ y) (h1 : y < 2147483647) : Builtin.Int.intBits y ≤ 64 := by
  have h2 : y.natAbs < 2 ^ 64 := by omega
  unfold Builtin.Int.intBits
  by_cases h : y = 0
  · subst h; decide
  · have hn : y.natAbs ≠ 0 := by omega
    rw [if_neg (by simpa using h)]
    exact (Nat.log2_lt hn).mpr h2
local macro_rules | `(tactic| walk_at "binaryOp Mult int int") => `(tactic| ((try simp only [gd0, gd1]); first | with_reducible refine mul_int ?_ (IntMulOk.of_right (by decide)) | refine mul_int ?_ (IntMulOk.of_left (bits_small (by first | assumption | omega) (by first | assumption | omega)))))
inductive TakP (top : Int) (g : Obj → Led) (v : Value) (news' : Led) : Prop where
  | mk (d : Int) (x' : Int) (y' : Int) (t' : Tok) (u' : Tok) (n' : Nat) (tt' : Tok) (h1_ : v = .int d tt') (h2_ : 0 ≤ d) (h3_ : d < top) (h4_ : SrcOk x' y') (h5_ : news' = g (srcO x' y' t' u' n')) : TakP top g v news'
set_option maxHeartbeats 8000000 in
theorem take_spec (w : World) (src : Addr) (x y : Int) (t u : Tok) (n : Nat) (top : Int) (tt : Tok) (news : Led) (g : Obj → Led) (U : UpdF src (srcO x y t u n) news g) (ht : 0 < top) (ht2 : top < 100) (S : SrcOk x y) :
    CallSpec w 219 [.ref src, .int top tt] 1 anyH news (TakP top g) := by
  refine CallSpec.of ?_
  intro p loose mean mg mb hh dp un gd env outer A₀ base h₀ L m hpZ gsZ drZ tkZ osZ Q E B F X N₀ T hf hk hH hdp hun hret
  (try k_fold)
  refine gG ?_
  intro Pz kz
  obtain ⟨rest, hne, hin, hout⟩ := UpdF.front U
  refine kz ?_
  clear kz
  have N := hin _ _ _ N₀
  obtain ⟨y0, y1⟩ := S
  have m0 := Int.emod_nonneg (y * 39373 + 7) (show (2147483647 : Int) ≠ 0 by decide)
  have m1 := Int.emod_lt_of_pos (y * 39373 + 7) (show (0 : Int) < 2147483647 by decide)
  rw [← Int.fmod_eq_emod_of_nonneg _ (by decide)] at m0 m1
  clear N₀ hin U
  refine wpAny_call ?_
  k_dflt walk_at "my_enter"
  k_steps
  all_goals (
    (try simp only [gd0])
    refine hret _ _ _ _ (by assumption) (hout _ _ _ _ (by assumption)) ?_
    refine ⟨_, _, _, _, _, _, _, rfl, Int.fmod_nonneg_of_pos _ ht, Int.fmod_lt_of_pos _ ht, ?_, rfl⟩
    constructor <;> assumption)
end
section
theorem strs_pair {x : Str} : (([Str.ofString "Prelude", Str.ofString "Prim"] : List Str).any fun y => y == x) = decide (x = "Prelude" ∨ x = "Prim") := by
  rw [any_mem]; simp only [List.mem_cons, List.not_mem_nil, or_false]
set_option maxHeartbeats 8000000 in
theorem needs_spec (w : World) (a l : Addr) (x : Str) (t : Tok) (vs : List Value) (xs : List Str) (n : Nat) (news : Led) (h1 : (a, tupO [.str x t, .ref l]) ∈ news) (h2 : (l, listO vs n) ∈ news) (hs : StrsAre vs xs) (hlen : vs.length ≤ 1000) :
    CallSpec w 238 [.ref a] 1 anyH news (fun v news' => Grown news news' ∧ TextsIn news' v (needs (x, xs))) := by
  refine CallSpec.of ?_
  intro p loose mean mg mb hh dp un gd env outer A₀ base h₀ L m hpZ gsZ drZ tkZ osZ Q E B F X N T hf hk hH hdp hun hret
  (try k_fold)
  refine wpAny_call ?_
  k_dflt walk_at "my_enter"
  k_steps
  · rename (_ = true) => hc
    rw [strs_pair, decide_eq_true_eq] at hc
    refine hret _ _ _ _ (by assumption) (by assumption) ⟨by walk_at "my_grown", l, vs, n, rfl, by k_mem, ?_⟩
    rw [needs, if_pos (hc.elim .inl fun q => .inr (.inl q))]; exact hs
  · rename (_ ∈ xs) => hc
    refine hret _ _ _ _ (by assumption) (by assumption) ⟨by walk_at "my_grown", l, vs, n, rfl, by k_mem, ?_⟩
    rw [needs, if_pos (.inr (.inr hc))]; exact hs
  · rename (¬ _ ∈ xs) => hc
    rename (_ = false) => hd
    rw [strs_pair, decide_eq_false_iff_not] at hd
    refine hret _ _ _ _ (by assumption) (by assumption) ⟨by walk_at "my_grown", _, _, _, rfl, by k_mem, ?_⟩
    rw [needs, if_neg (fun q => q.elim (fun q => hd (.inl q)) fun q => q.elim (fun q => hd (.inr q)) hc)]
    exact .cons _ _ hs
end
section
local macro_rules | `(tactic| walk_at "subscriptTail") => `(tactic| (k_here; (with_reducible show wpAny _ _ (subscriptTail _ _ (Value.ref _) (Value.str _ _)) _ _ _); k_dflt (refine kda_item (knd := PySem.strKind _ _) (by k_asm) (by k_mem) (by k_asm) (strKind_is _ _ _ _) (by assumption) ?_)))
local macro_rules | `(tactic| walk_at "setItem ref str") => `(tactic| (k_here; k_dflt (refine' storeOld ?F ?N ?U ?d (strKind_is _ _ _ _) ?i ?_; (case F => k_asm); (case N => k_asm); (case U => k_updF); (case d => k_asm); (case i => assumption)); intro h' o' F' N' hd'; (try dsimp only at N')))
section
local macro_rules | `(tactic| walk_at "call ref") => `(tactic| (k_here; k_dflt (walk_at "my_use"; (case kS => exact needs_spec _ _ _ _ _ _ _ _ _ (by k_mem) (by k_mem) (by assumption) (by assumption)); walk_at "my_used")))
inductive RJ1 (w : World) (LF Dd : Addr) (oc2' : Obj) (ep : Nat) (rows : List Row) (news : Led) (D4 : Addr) (ys4 : List Value) (M0 : Str → Option Value) (i : Nat) (m : Str → Option Value) (nw : Led) : Prop where
  | mk (o : Obj) (kvs : List (Str × Value)) (ocn : Obj) (u : Option Value) (G : Led) (h1_ : nw = (Dd, o) :: (LF + 1 + 1, ocn) :: (LF + 1, oc2') :: G) (h2_ : ∃ x, ocn.data = .cell x) (h3_ : DAt prg w o kvs ep) (h4_ : TblIn G kvs (((rows.map (·.1)).take i).foldl (stepMid (rows.map (·.1))) (start rows))) (h5_ : m = (fun y => if y = Str.ofString "middle" then u else M0 y)) (h6_ : Grown news G) (h7_ : (D4, LCg.lst ys4) ∈ G) (h8_ : ∀ p ∈ G, p.1 ∉ [Dd, LF + 1 + 1, LF + 1]) : RJ1 w LF Dd oc2' ep rows news D4 ys4 M0 i m nw
inductive RJ2 (w : World) (LF Dd I : Addr) (oI oc2' : Obj) (ep i : Nat) (mid : Str) (rows : List Row) (news : Led) (D4 : Addr) (ys4 : List Value) (M1 : Str → Option Value) (j : Nat) (m : Str → Option Value) (nw : Led) : Prop where
  | mk (o : Obj) (kvs : List (Str × Value)) (ocn : Obj) (G : Led) (h1_ : nw = (I, oI) :: (Dd, o) :: (LF + 1 + 1, ocn) :: (LF + 1, oc2') :: G) (h2_ : ∃ x, ocn.data = .cell x) (h3_ : DAt prg w o kvs ep) (h4_ : TblIn G kvs (((rows.map (·.1)).take j).foldl (fun t name => stepIn mid name t) (((rows.map (·.1)).take i).foldl (stepMid (rows.map (·.1))) (start rows)))) (h5_ : m = M1) (h6_ : Grown news G) (h7_ : (D4, LCg.lst ys4) ∈ G) (h8_ : ∀ p ∈ G, p.1 ∉ [I, Dd, LF + 1 + 1, LF + 1]) : RJ2 w LF Dd I oI oc2' ep i mid rows news D4 ys4 M1 j m nw
inductive RchP (w : World) (rows : List Row) (news : Led) (v : Value) (news' : Led) : Prop where
  | mk (D : Addr) (o : Obj) (kvs : List (Str × Value)) (h1_ : v = .ref D) (h2_ : (D, o) ∈ news') (h3_ : Grown news news') (h4_ : ∀ q ∈ news, q.1 ≠ D) (h5_ : (D == sysModules) = false) (h6_ : o.IsDictOf (PySem.strKind prg w) kvs) (h7_ : TblIn news' kvs (reached rows)) : RchP w rows news v news'
set_option maxHeartbeats 8000000 in
theorem reached_spec (w : World) (rl : Addr) (rvs : List Value) (n : Nat) (rows : List Row) (news : Led) (h1 : (rl, listO rvs n) ∈ news) (h2 : Each (RowIn news) rvs rows) (hlen : rows.length ≤ 7) (hnd : (rows.map (·.1)).Nodup) (hsh : ∀ r ∈ rows, r.2.length ≤ 7) :
    CallSpec w 243 [.ref rl] 3 HOk news (RchP w rows news) := by
  refine CallSpec.of ?_
  intro p loose mean mg mb hh dp un gd env outer A₀ base h₀ L m hpZ gsZ drZ tkZ osZ Q E B F X N T hf hk hH hdp hun hret
  (try k_fold)
  refine wpAny_call ?_
  refine' code_defC ?k1 ?k2 ?k3 ?k4 ?k5 ?kA ?kF ?kK ?k6 ?k7 ?k8 ?k9 ?kB ?kD ?_ ?c2 ?c3 ?c4
  case kA => exact rfl
  case kF => assumption
  case kK => assumption
  case k1 => k_asm
  case k2 => k_asm
  case k3 => k_asm
  case k4 => k_asm
  case k5 => k_asm
  case k6 => k_is
  case k7 => k_is
  case k8 => walk_at "my_room"
  case k9 => exact BindsTo.of_eq rfl
  case kB => exact rfl
  case kD => decide +kernel
  case c2 => exact rfl
  case c3 => exact rfl
  case c4 => exact rfl
  intro gB LF hF tkF cellsF FG FF NF YF BF XF TF lF
  dsimp only
  k_fold
  refine letX ?_
  intro Mz ez Az
  refine letF FF ?_
  clear FF
  intro mF FF
  have hHg := HOk.keeps hH (Fr.keep FG)
  refine gG ?_
  intro Pz kz
  obtain ⟨oc1, oc2, hE, dc1, dc2⟩ := CellsAre.two YF
  refine kz ?_
  clear kz
  subst hE
  clear YF
  simp only [List.cons_append, List.nil_append] at NF
  k_steps
  generalize hb : ((LF + 1 + 1, oc1) :: (LF + 1, oc2) :: news : Led) = b0 at NF
  have hc1 : (LF + 1 + 1, oc1) ∈ b0 := by rw [← hb]; exact .head _
  have hc2 : (LF + 1, oc2) ∈ b0 := by rw [← hb]; exact .tail _ (.head _)
  have N0 := NF
  have h1' : (rl, listO rvs n) ∈ b0 := by rw [← hb]; exact .tail _ (.tail _ h1)
  have h2' : Each (RowIn b0) rvs rows := h2.mono fun v x r => r.mono fun p hp => by rw [← hb]; exact .tail _ (.tail _ hp)
  refine CSrc.mk (by assumption) (by assumption) N0 h1' (line_small (by rw [h2.1]; omega)) (fun i ys nw => Grown b0 nw ∧ Each (RowIn nw) ys ((start rows).take i)) ⟨Grown.refl, .nil⟩ (fun i ys nw z => z.1.1 _ h1') ?_ ?_
  · intro i v ys nw I oI C oC D m₂ h tk E' hv hI hC hx F1 N1 off ne
    (try k_fold)
    refine gG ?_
    intro Pz kz
    obtain ⟨r, hr, a, t, l, vs, n', rfl, ha, hl, hs⟩ := h2'.2 i v hv
    refine kz ?_
    clear kz
    have ha' := hI.1.1 _ ha
    have hl' := hI.1.1 _ hl
    have hlen1 : vs.length ≤ 1000 := by have := hsh r (List.mem_of_getElem? hr); rw [strs_len hs]; omega
    k_steps
    rename (Grown _ _ ∧ TextsIn _ _ _) => hP
    refine gG ?_
    intro Pz kz
    obtain ⟨hg, l2, vs2, n2, rfl, hm2, hs2⟩ := hP
    refine kz ?_
    clear kz
    rename (News _ _ _ _) => N2
    have hsz2 : vs2.length ≤ 1000 := by rw [strs_len hs2]; have h7 := hsh r (List.mem_of_getElem? hr); have h8 : (needs (r.1, r.2)).length ≤ r.2.length + 1 := needs_len r; omega
    refine CSrc.mk (by assumption) (by assumption) N2 hm2 (line_small (by omega)) (fun j ys2 nw2 => Grown _ nw2 ∧ Each (fun v x => ∃ t, v = Value.str x t) ys2 ((needs r).take j)) ⟨Grown.refl, .nil⟩ (fun _ _ _ z => z.1.1 _ hm2) ?_ ?_
    · intro j v2 ys2 nw2 I2 oI2 C2 oC2 D2 m3 h3 tk3 E3 hv2 hI2 hC2 hx2 F2 N3 off2 ne2
      (try k_fold)
      refine gG ?_
      intro Pz kz
      obtain ⟨x, t2, rfl, hx'⟩ := strs_get hs2 j v2 hv2
      refine kz ?_
      clear kz
      k_steps
      exact LCg.CompEnd.intro F2 N3 nw2 (fun _ h => h) off2 trivial ⟨hI2.1, hI2.2.step hx' ⟨_, rfl⟩⟩
    · intro g ys2 nw2 hI2
      k_steps
      rename (News _ _ _ _) => NN
      have hgn := hg.trans hI2.1
      have hgAll := asIn (base := (I, oI) :: (C, oC) :: (D, LCg.lst ys) :: nw) NN (by walk_at "my_grown")
      rw [List.take_of_length_le (by rw [strs_len hs2]; exact Nat.le_refl _)] at hI2
      refine LCg.CompEnd.intro (by assumption) NN _ (in3 hgAll) (LCg.Off3.of off_drop3) trivial ⟨hI.1.drop3 off.mem hgAll, Each.step (hI.2.up fun p hp => mem_drop3' off.mem hgAll hp) (by rw [start, List.getElem?_map, hr]; rfl) ?_⟩
      refine ⟨_, _, _, _, _, rfl, mem_drop3 (nw := nw) (oI := oI) (oC := oC) (oD := LCg.lst ys) ?_ (by k_mem), mem_drop3 (nw := nw) (oI := oI) (oC := oC) (oD := LCg.lst ys) ?_ (by k_mem), hI2.2.strs⟩
      · exact newNe hgn (by walk_at "my_ne")
      · exact newNe hgn (by walk_at "my_ne")
  · intro g ys nw hI
    unfold LCg.FinE
    intro D h tk F1 N1 o1
    rw [List.take_of_length_le (by rw [start, List.length_map, h2.1]; exact Nat.le_refl _)] at hI
    refine gG ?_
    intro Pz kz
    obtain ⟨prs, hp1, hp2, hp3, hp4⟩ := pairs_of hI.2
    refine kz ?_
    clear kz
    have hoff0 : ∀ p ∈ news, p.1 ∉ ([(LF + 1 + 1, oc1), (LF + 1, oc2)] : Led).map (·.1) := lt_off2 lF
    have hg0 : Grown ([(LF + 1 + 1, oc1), (LF + 1, oc2)] ++ news) ((D, LCg.lst ys) :: nw) := Grown.cons (off1_ne o1) (by rw [← hb] at hI; exact hI.1)
    refine gG ?_
    intro Pz kz
    obtain ⟨X1, NR, g1, off1, mem1, new1⟩ := regrow N1 hg0 hoff0
    refine kz ?_
    clear kz
    simp only [List.cons_append, List.nil_append] at NR
    have hS : SeqSub ((D, LCg.lst ys) :: nw) X1 := seqSub_own mem1 (by
      intro p hp
      simp only [List.mem_cons, List.not_mem_nil, or_false] at hp
      rcases hp with rfl | rfl
      · intro xs n q; rw [dc1] at q; cases q
      · intro xs n q; rw [dc2] at q; cases q)
    walk_at "my_go"
    refine dictPairs (prs := prs) (by assumption) NR (Top.nolimit (by assumption)) (by assumption) (.tail _ (.tail _ (hS _ (.head _) ⟨_, _, rfl⟩))) hp1 (by rw [hI.2.1, start, List.length_map]; omega) (fun j v hv => ?_) ?_
    · refine gG ?_
      intro Pz kz
      obtain ⟨a, k, t, x, e1, e2, e3⟩ := hp2 j v hv
      refine kz ?_
      clear kz
      exact ⟨a, k, t, x, e1, e2, .tail _ (.tail _ (hS _ (.tail _ e3) ⟨_, _, rfl⟩))⟩
    intro Dd od hx2 tk2 F2 N2 l2 lo hdo
    (try k_fold)
    rw [storeAll_new _ _ (by rw [List.nil_append, hp3, start, List.map_map]; exact hnd), List.nil_append] at hdo
    k_lt l2
    have x1 : ∀ p ∈ X1, p.1 ≠ LF + 1 + 1 := notmem_ne off1 (by simp)
    have x2 : ∀ p ∈ X1, p.1 ≠ LF + 1 := notmem_ne off1 (by simp)
    walk_at "my_go"
    rename (Fr gB LF _ _) => F3
    rename (News gB LF _ _) => N3
    rename_i h3 oc2' dc2' qkz tkz
    have off1' : ∀ p ∈ X1, p.1 ∉ ([(Dd, od), (LF + 1 + 1, oc1), (LF + 1, oc2')] : Led).map (·.1) := fun p hp q => by
      simp only [List.map_cons, List.map_nil, List.mem_cons, List.not_mem_nil, or_false] at q
      rcases q with q | q | q
      · exact allLt_ne l2.2.2 p hp q
      · exact x1 p hp q
      · exact x2 p hp q
    have hM1 : ∀ p ∈ ([(Dd, od), (LF + 1 + 1, oc1), (LF + 1, oc2')] : Led), ∀ xs n, p.2.data ≠ .seq xs n := by
      refine gG ?_
      intro Pz kz
      obtain ⟨es, ep, _, hde, _⟩ := hdo
      refine kz ?_
      clear kz
      intro p hp xs n q
      simp only [List.mem_cons, List.not_mem_nil, or_false] at hp
      rcases hp with rfl | rfl | rfl
      · rw [hde] at q; cases q
      · rw [dc1] at q; cases q
      · rw [dc2'] at q; cases q
    generalize hb1 : ((Dd, od) :: (LF + 1 + 1, oc1) :: (LF + 1, oc2') :: X1 : Led) = b1 at N3
    have hs01 : SeqSub b0 b1 := fun p hp hq => by
      rw [← hb1]; exact .tail _ (.tail _ (.tail _ (hS p (.tail _ (hI.1.1 p hp)) hq)))
    have h1b : (rl, listO rvs n) ∈ b1 := hs01 _ h1' ⟨_, _, rfl⟩
    have h2b : Each (RowIn b1) rvs rows := h2'.upS hs01
    refine CSrc.mk (by assumption) F3 N3 h1b (line_small (by rw [h2.1]; omega)) (fun i ys nw => Grown b1 nw ∧ Each (fun v x => ∃ t, v = Value.str x t) ys ((rows.map (·.1)).take i)) ⟨Grown.refl, .nil⟩ (fun i ys nw z => z.1.1 _ h1b) ?_ ?_
    · intro i v ys nw I oI C oC D m₂ h tk E' hv hI hC hx F1 N1 off ne
      (try k_fold)
      refine gG ?_
      intro Pz kz
      obtain ⟨r, hr, a, t, l, vs, n', rfl, ha, hl, hs⟩ := h2b.2 i v hv
      refine kz ?_
      clear kz
      have ha' := hI.1.1 _ ha
      walk_at "my_go"
      exact LCg.CompEnd.intro (by assumption) (by assumption) nw (fun _ h => h) off trivial ⟨hI.1, hI.2.step (by rw [List.getElem?_map, hr]; rfl) ⟨_, rfl⟩⟩
    intro g ys4 nw4 hI4
    unfold LCg.FinE
    intro D4 h4 tk4 F4 N4 o4
    have hnames : StrsAre ys4 (rows.map (·.1)) := by
      have z := hI4.2
      rw [List.take_of_length_le (by rw [List.length_map, h2.1]; exact Nat.le_refl _)] at z
      exact z.strs
    have hg4 : Grown ([(Dd, od), (LF + 1 + 1, oc1), (LF + 1, oc2')] ++ X1) ((D4, LCg.lst ys4) :: nw4) := Grown.cons (off1_ne o4) (by rw [← hb1] at hI4; exact hI4.1)
    refine gG ?_
    intro Pz kz
    obtain ⟨G0, N5, g5, off5, mem5, new5⟩ := regrow N4 hg4 off1'
    refine kz ?_
    clear kz
    simp only [List.cons_append, List.nil_append] at N5
    have hS5 : SeqSub ((D4, LCg.lst ys4) :: nw4) G0 := seqSub_own mem5 hM1
    obtain ⟨ep, hda⟩ := DAt.of hdo
    obtain ⟨M0, hM0, F4'⟩ := frOut F4
    have nm := h2.1
    refine for_list (J := RJ1 w LF Dd oc2' ep rows news D4 ys4 M0) (by assumption) F4' N5 (.tail _ (.tail _ (.tail _ (hS5 _ (.head _) ⟨_, _, rfl⟩)))) ?_ ?_ ?_ ?_
    · refine ⟨od, prs, oc1, _, G0, rfl, ⟨_, dc1⟩, hda, ⟨hp3, fun i p hp => ?_⟩, mapSelf _ _, g1.trans g5, hS5 _ (.head _) ⟨_, _, rfl⟩, off5⟩
      obtain ⟨e, he, ht⟩ := hp4 i p hp
      refine ⟨e, he, (((ht.mono fun p hp => .tail (D, LCg.lst ys) hp).monoS hS).mono fun p hp => ?_).monoS hS5⟩
      exact .tail _ (hI4.1.1 _ (by rw [← hb1]; exact .tail _ (.tail _ (.tail _ hp))))
    · intro i m nw hJz
      (try k_fold)
      refine gG ?_
      intro Pz kz
      obtain ⟨o, kvs, ocn, u, G, rfl, _, _, _, _, _, h, _⟩ := hJz
      refine kz ?_
      clear kz
      exact .tail _ (.tail _ (.tail _ h))
    · intro i v m₁ nw I oI h tk hv hJ hnI hI₀ F6 N6
      (try k_fold)
      refine gG ?_
      intro Pz kz
      obtain ⟨o, kvs, ocn, u, G, rfl, ⟨xn, hcn⟩, hd, ht, rfl, hG, hD4, hoff⟩ := hJ
      refine kz ?_
      clear kz
      refine gG ?_
      intro Pz kz
      obtain ⟨mid, tm, rfl, hmid⟩ := strs_get hnames i v hv
      refine kz ?_
      clear kz
      have F7 : Fr gB LF h _ := F6
      have N7 : News gB LF h _ := N6
      clear F6 N6
      subst hM0
      walk_at "my_go"
      refine wpAny_For ?_ ?_
      rotate_left
      · intro _; rfl
      walk_at "my_go"
      obtain ⟨M1, hM1', F8⟩ := frOut F7
      have hkk : kvs.map (·.1) = rows.map (·.1) := by rw [ht.1, keys_foldMid, keys_start]
      have i1 := neNat (hnI _ (.head _))
      have i2 := neNat (hnI _ (.tail _ (.head _)))
      have i3 := neNat (hnI _ (.tail _ (.tail _ (.head _))))
      dsimp only at i1 i2 i3
      have i1_s := Ne.symm i1
      have i2_s := Ne.symm i2
      have i3_s := Ne.symm i3
      have hIG : ∀ p ∈ G, p.1 ≠ I := fun p hp => hnI p (.tail _ (.tail _ (.tail _ hp)))
      refine for_keys (kvs := kvs) (ep := ep) (ks := rows.map (·.1)) (J := RJ2 w LF Dd I oI oc2' ep i mid rows news D4 ys4 M1) (by assumption) F8 N7 lo (by k_mem) hd hkk ?_ ?_ ?_ ?_ ?_ ?_
      · refine ⟨o, kvs, ocn, G, rfl, ⟨_, hcn⟩, hd, ht, rfl, hG, hD4, fun p hp q => ?_⟩
        rcases List.mem_cons.mp q with q | q
        · exact hIG p hp q
        · exact hoff p hp q
      · intro j m nw hJz
        (try k_fold)
        refine gG ?_
        intro Pz kz
        obtain ⟨o, kvs, ocn, G, rfl, _, hd, ht, _⟩ := hJz
        refine kz ?_
        clear kz
        exact ⟨o, kvs, .tail _ (.head _), hd, by rw [ht.1, keys_foldIn, keys_foldMid, keys_start]⟩
      · intro j k tk1 m₁ nw I2 oI2 h5 tk5 hk hJ hnI2 hI2 F9 N9
        (try k_fold)
        refine gG ?_
        intro Pz kz
        obtain ⟨o, kvs, ocn, G, rfl, ⟨xc, hcn⟩, hd, ht, rfl, hG, hD4, hoff⟩ := hJ
        refine kz ?_
        clear kz
        have FA : Fr gB LF h5 _ := F9
        have NA : News gB LF h5 _ := N9
        clear F9 N9
        subst hM1'
        have hkeys : (((rows.map (·.1)).take j).foldl (fun t name => stepIn mid name t) (((rows.map (·.1)).take i).foldl (stepMid (rows.map (·.1))) (start rows))).map (·.1) = rows.map (·.1) := by rw [keys_foldIn, keys_foldMid, keys_start]
        have hk' := List.mem_of_getElem? hk
        have hmid' := List.mem_of_getElem? hmid
        have hlb := lenBound hlen hnd hsh i j mid
        obtain ⟨T, hT⟩ : ∃ T, (((rows.map (·.1)).take j).foldl (fun t name => stepIn mid name t) (((rows.map (·.1)).take i).foldl (stepMid (rows.map (·.1))) (start rows))) = T := ⟨_, rfl⟩
        rw [hT] at ht hkeys hlb
        refine gG ?_
        intro Pz kz
        obtain ⟨v1, hv1, l1, us1, n1, rfl, hl1, hs1⟩ := ht.at (k := k) (by rw [hkeys]; exact hk')
        refine kz ?_
        clear kz
        refine gG ?_
        intro Pz kz
        obtain ⟨v2, hv2, l2', us2, n2, rfl, hl2, hs2⟩ := ht.at (k := mid) (by rw [hkeys]; exact hmid')
        refine kz ?_
        clear kz
        have hb1 := tget_len hlb k
        have hb2 := tget_len hlb mid
        rw [← strs_len hs1] at hb1
        rw [← strs_len hs2] at hb2
        have hdd := hd.dict
        have w1 : ∀ p ∈ G, p.1 ≠ I := fun p hp e => hoff p hp (by rw [e]; exact .head _)
        have w2 : ∀ p ∈ G, p.1 ≠ Dd := fun p hp e => hoff p hp (by rw [e]; exact .tail _ (.head _))
        have w3 : ∀ p ∈ G, p.1 ≠ LF + 1 + 1 := fun p hp e => hoff p hp (by rw [e]; exact .tail _ (.tail _ (.head _)))
        have w4 : ∀ p ∈ G, p.1 ≠ LF + 1 := fun p hp e => hoff p hp (by rw [e]; exact .tail _ (.tail _ (.tail _ (.head _))))
        have a1 := neNat (hnI2 _ (.head _))
        have a2 := neNat (hnI2 _ (.tail _ (.head _)))
        have a3 := neNat (hnI2 _ (.tail _ (.tail _ (.head _))))
        have a4 := neNat (hnI2 _ (.tail _ (.tail _ (.tail _ (.head _)))))
        dsimp only at a1 a2 a3 a4
        have a1_s := Ne.symm a1
        have a2_s := Ne.symm a2
        have a3_s := Ne.symm a3
        have a4_s := Ne.symm a4
        have a5 : ∀ p ∈ G, p.1 ≠ I2 := fun p hp => hnI2 p (.tail _ (.tail _ (.tail _ (.tail _ hp))))
        walk_at "my_go"
        · rename (mid ∈ _) => hc
          rename (News gB LF _ _) => NB
          rename (Fr gB LF _ _) => FB
          rename (Obj.data _ = Data.cell _) => dc1'; rename Obj => oc1'
          generalize hb2' : ((I2, oI2) :: (I, oI) :: (Dd, o) :: (LF + 1 + 1, oc1') :: (LF + 1, oc2') :: G : Led) = b2 at NB
          have m1 : (Dd, o) ∈ b2 := by rw [← hb2']; exact .tail _ (.tail _ (.head _))
          have m2 : (LF + 1 + 1, oc1') ∈ b2 := by rw [← hb2']; exact .tail _ (.tail _ (.tail _ (.head _)))
          have m3 : (LF + 1, oc2') ∈ b2 := by rw [← hb2']; exact .tail _ (.tail _ (.tail _ (.tail _ (.head _))))
          have m4 : (l1, listO us1 n1) ∈ b2 := by rw [← hb2']; exact .tail _ (.tail _ (.tail _ (.tail _ (.tail _ hl1))))
          have m5 : (l2', listO us2 n2) ∈ b2 := by rw [← hb2']; exact .tail _ (.tail _ (.tail _ (.tail _ (.tail _ hl2))))
          refine CSrcT.mk (by assumption) FB NB m5 (line_small (by omega)) (fun i ys nw => Grown b2 nw ∧ Each (fun v x => ∃ t, v = Value.str x t) ys (((tget T mid).take i).filter fun o => decide (o ∉ tget T k))) ⟨Grown.refl, .nil⟩ (fun i ys nw z => z.1.1 _ m5) ?_ ?_
          · intro i' v' ys nw I3 oI3 C3 oC3 D3 m₂ h3' tk3 E3 hv3 hI3 hC3 hx3 F3' N3' off3 ne3
            (try k_fold)
            refine gG ?_
            intro Pz kz
            obtain ⟨x, tx, rfl, hx⟩ := strs_get hs2 i' v' hv3
            refine kz ?_
            clear kz
            have q1 := hI3.1.1 _ m1
            have q2 := hI3.1.1 _ m2
            have q3 := hI3.1.1 _ m3
            have q4 := hI3.1.1 _ m4
            walk_at "my_go"
            · rename (x ∈ _) => hc
              exact LCg.CompEnd.intro (by assumption) (by assumption) nw (fun _ h => h) off3 trivial ⟨hI3.1, hI3.2.stepF hx (by simpa using hc)⟩
            · rename (¬ x ∈ _) => hc
              exact LCg.CompEnd.intro (by assumption) (by assumption) nw (fun _ h => h) off3 trivial ⟨hI3.1, hI3.2.stepT hx (by simpa using hc) ⟨_, rfl⟩⟩
          · intro g' ys6 nw6 hI6
            unfold LCg.FinE
            intro D6 h6 tk6 F6 N6 o6
            have hg6 : Grown ([(I2, oI2), (I, oI), (Dd, o), (LF + 1 + 1, oc1'), (LF + 1, oc2')] ++ G) ((D6, LCg.lst ys6) :: nw6) := Grown.cons (off1_ne o6) (by rw [← hb2'] at hI6; exact hI6.1)
            refine gG ?_
            intro Pz kz
            obtain ⟨G6, N7', g7, off7, mem7, new7⟩ := regrow N6 hg6 (fun p hp q => by
              rcases List.mem_cons.mp q with q | q
              · exact a5 p hp q
              · exact hoff p hp q)
            refine kz ?_
            clear kz
            simp only [List.cons_append, List.nil_append] at N7'
            have y1 : ∀ p ∈ G6, p.1 ≠ I2 := notmem_ne off7 (by simp)
            have y2 : ∀ p ∈ G6, p.1 ≠ I := notmem_ne off7 (by simp)
            have y3 : ∀ p ∈ G6, p.1 ≠ Dd := notmem_ne off7 (by simp)
            have y4 : ∀ p ∈ G6, p.1 ≠ LF + 1 + 1 := notmem_ne off7 (by simp)
            have y5 : ∀ p ∈ G6, p.1 ≠ LF + 1 := notmem_ne off7 (by simp)
            have hD6 : (D6, LCg.lst ys6) ∈ G6 := new7 _ (.head _) (not_own (newNe' (X := G) (by rw [← hb2'] at hI6; exact hI6.1) (off1_ne o6)))
            have hl1' := g7.1 _ hl1
            rw [List.take_of_length_le (by rw [strs_len hs2]; exact Nat.le_refl _)] at hI6
            have hs6 := hI6.2.strs
            have hb6 : ys6.length ≤ 2048 := by rw [strs_len hs6]; exact Nat.le_trans (List.length_filter_le _ _) (by rw [← strs_len hs2]; exact hb2)
            have hkin : k ∈ kvs.map (·.1) := by rw [ht.1, hkeys]; exact hk'
            walk_at "my_go"
            rename (DAt _ _ _ (stored _ _ _) _) => hd9
            rename (News gB LF _ _) => N9'
            rename (Fr gB LF _ _) => F9'
            rename (_ ∧ _ ∧ _ ∧ _ ∧ _ ∧ AllLt _ _) => l9
            have z6 := allLt_ne l9.2.2.2.2.2
            have z1 := Nat.ne_of_gt l9.1
            have z2 := Nat.ne_of_gt l9.2.1
            have z3 := Nat.ne_of_gt l9.2.2.1
            have z4 := Nat.ne_of_gt l9.2.2.2.1
            have z5 := Nat.ne_of_gt l9.2.2.2.2.1
            refine TurnEnd.intro ((I, oI) :: (Dd, _) :: (LF + 1 + 1, oc1') :: (LF + 1, oc2') :: (_, listO (us1 ++ ys6) 0) :: G6) F9' N9' (.tail _ (.head _)) (fun p hp => ?_) (ne_cons a1 (ne_cons a2 (ne_cons a3 (ne_cons a4 (ne_cons z1 y1))))) ⟨_, _, _, _, rfl, ⟨_, dc1'⟩, hd9, ?_, rfl, Grown.cons z6 (hG.trans g7), .tail _ (g7.1 _ hD4), ?_⟩
            · revert p hp; walk_at "my_sub"
            · rw [take_snoc hk, List.foldl_append, hT, List.foldl_cons, List.foldl_nil, stepIn, if_pos hc]
              exact (ht.monoS (SeqSub.of fun p hp => .tail _ (g7.1 p hp))).put (by rw [hkeys]; exact hk') ⟨_, _, _, rfl, .head _, strsCat hs1 hs6⟩
            · intro p hp q
              rcases List.mem_cons.mp hp with rfl | hp
              · simp only [List.mem_cons, List.not_mem_nil, or_false] at q
                rcases q with q | q | q | q
                · exact z2 q
                · exact z3 q
                · exact z4 q
                · exact z5 q
              · exact off7 p hp (.tail _ q)
        · rename (¬ mid ∈ _) => hc
          exact TurnEnd.intro ((I, oI) :: (Dd, o) :: (LF + 1 + 1, _) :: (LF + 1, oc2') :: G) (by assumption) (by assumption) (.head _) (fun p hp => .tail _ hp) (ne_cons a1 (ne_cons a2 (ne_cons a3 (ne_cons a4 a5)))) ⟨o, kvs, _, G, rfl, ⟨_, by assumption⟩, hd, by
            rw [take_snoc hk, List.foldl_append, hT, List.foldl_cons, List.foldl_nil, stepIn, if_neg hc]; exact ht, rfl, hG, hD4, hoff⟩
      · intro m₁ nw h6 tk6 hJz F9 N9
        (try k_fold)
        refine gG ?_
        intro Pz kz
        obtain ⟨o, kvs, ocn, G, rfl, hcn, hd, ht, rfl, hG, hD4, hoff⟩ := hJz
        refine kz ?_
        clear kz
        subst hM1'
        dsimp only
        walk_at "my_go"
        have F8' : Fr gB LF h6 _ := F9
        obtain ⟨xc, hcn⟩ := hcn
        refine TurnEnd.intro ((Dd, o) :: (LF + 1 + 1, ocn) :: (LF + 1, oc2') :: G) F8' (by assumption) (.head _) (fun p hp => .tail _ hp) (ne_cons i1 (ne_cons i2 (ne_cons i3 fun p hp e => hoff p hp (by rw [e]; exact .head _)))) ⟨o, kvs, ocn, _, G, rfl, ⟨_, hcn⟩, hd, ?_, mapOver _ _ _ _, hG, hD4, fun p hp q => hoff p hp (.tail _ q)⟩
        rw [take_snoc hmid, List.foldl_append, List.foldl_cons, List.foldl_nil, stepMid]
        rw [List.take_of_length_le (Nat.le_refl _)] at ht
        exact ht
      · intro it v; rfl
      · passes_own
    · intro m₁ nw h tk hJz F6 N6
      (try k_fold)
      refine gG ?_
      intro Pz kz
      obtain ⟨o, kvs, ocn, u, G, rfl, _, hd, ht, rfl, hG, _, hoff⟩ := hJz
      refine kz ?_
      clear kz
      have F7 : Fr gB LF h _ := F6
      have N7 : News gB LF h _ := N6
      clear F6 N6
      rw [List.take_of_length_le (by rw [strs_len hnames]; exact Nat.le_refl _)] at ht
      subst hM0
      dsimp only
      walk_at "my_go"
      refine hret _ _ _ ((Dd, o) :: G) (by assumption) (News.sub (by assumption) ?_) ⟨Dd, o, kvs, rfl, .head _, Grown.cons (fun q hq e => hoff q hq (by rw [e]; exact .head _)) hG, fun q hq e => hoff q (hG.1 q hq) (by rw [e]; exact .head _), lo, hd.dict, ?_⟩
      · intro p hp
        rcases List.mem_cons.mp hp with rfl | hp
        · exact .head _
        · exact .tail _ (.tail _ (.tail _ hp))
      · exact ht.monoS (SeqSub.of fun p hp => .tail _ hp)
end
section
def isLet (rows : List Row) : Bool := decide ((rows.map (·.1)).Nodup) && decide (((rows.map (·.1)).filter fun one => decide (one ∈ tget (reached rows) one)) = [])
theorem storeAll_le : ∀ (prs kvs : List (Str × Value)), (storeAll kvs prs).length ≤ kvs.length + prs.length
  | [], kvs => by simp [storeAll]
  | (k, v) :: r, kvs => by
    have e : storeAll kvs ((k, v) :: r) = storeAll (stored kvs k v) r := rfl
    have h1 := storeAll_le r (stored kvs k v)
    have h2 := stored_len kvs k v
    rw [e, List.length_cons]; omega
theorem storeAll_lt : ∀ (prs kvs : List (Str × Value)), (kvs.map (·.1)).Nodup → ¬ ((kvs ++ prs).map (·.1)).Nodup → (storeAll kvs prs).length < kvs.length + prs.length
  | [], kvs, hn, h => absurd (by simpa using hn) h
  | (k, v) :: r, kvs, hn, h => by
    have e : storeAll kvs ((k, v) :: r) = storeAll (stored kvs k v) r := rfl
    rw [e, List.length_cons]
    by_cases hk : (kvs.any fun kv => decide (kv.1 = k)) = true
    · have h1 := storeAll_le r (stored kvs k v)
      have h2 : (stored kvs k v).length = kvs.length := by rw [stored, if_pos hk, List.length_map]
      omega
    · have h2 : stored kvs k v = kvs ++ [(k, v)] := by rw [stored, if_neg hk]
      have hn' : ((kvs ++ [(k, v)]).map (·.1)).Nodup := by
        rw [List.map_append, List.nodup_append]
        refine ⟨hn, by simp, fun a ha b hb q => ?_⟩
        simp only [List.map_cons, List.map_nil, List.mem_singleton] at hb
        obtain ⟨p, h1, h2⟩ := List.mem_map.mp ha
        exact hk (List.any_eq_true.mpr ⟨p, h1, by simp [h2, q, hb]⟩)
      have := storeAll_lt r (kvs ++ [(k, v)]) hn' (by simpa using h)
      rw [h2]
      simp only [List.length_append, List.length_cons, List.length_nil] at this ⊢
      omega
local macro_rules | `(tactic| walk_at "call ref") => `(tactic| (k_here; k_dflt (walk_at "my_use"; (case kS => exact reached_spec _ _ _ _ _ _ (by k_mem) (by assumption) (by assumption) (by assumption) (by assumption)); walk_at "my_used")))
local macro_rules | `(tactic| walk_at "call builtin:len") => `(tactic| (k_here; (with_reducible show wpAny _ _ (call (Value.builtin "len") [Value.ref _]) _ _ _); k_dflt (first
  | refine kda_len (knd := PySem.strKind _ _) (by k_asm) (by k_mem) (by k_asm) (by k_asm) (by assumption) ?_
  | (refine lenList (by k_asm) (by k_mem) (by assumption) ?_; intro t' tk'))))
local macro_rules | `(tactic| walk_at "compareOp Eq ref ref") => `(tactic| (k_here; k_dflt (refine eqNil (by k_asm) (by k_mem) (by k_mem) (by (dsimp +zetaDelta only [Around.deeper, Around.in1]; omega)) ?_)))
set_option maxHeartbeats 8000000 in
theorem islet_specH (w : World) (rl : Addr) (rvs : List Value) (n : Nat) (rows : List Row) (news : Led) (h1 : (rl, listO rvs n) ∈ news) (h2 : Each (RowIn news) rvs rows) (hlen : rows.length ≤ 7) (hsh : ∀ r ∈ rows, r.2.length ≤ 7) :
    CallSpecH w 248 [.ref rl] 4 news (fun v news' => v = .bool (isLet rows) ∧ Grown news news') := by
  intro p loose mean mg mb hh dp un gd env outer A₀ base h₀ L m s Q E B F X N T hf hk hH hdp hun hret
  (try k_fold)
  refine wpAny_call ?_
  refine' enterHeld ?k1 ?k2 ?k3 ?k4 ?k5 ?kA ?kF ?kK ?k6 ?k7 ?k8 ?k9 ?kB ?kD ?kH ?_ ?c2 ?c3 ?c4
  case kA => exact rfl
  case kF => assumption
  case kK => assumption
  case k1 => k_asm
  case k2 => k_asm
  case k3 => k_asm
  case k4 => k_asm
  case k5 => k_asm
  case k6 => k_is
  case k7 => k_is
  case k8 => walk_at "my_room"
  case k9 => exact BindsTo.of_eq rfl
  case kB => exact rfl
  case kD => decide +kernel
  case kH => assumption
  case c2 => exact rfl
  case c3 => exact rfl
  case c4 => exact rfl
  intro gB LF hF tkF cellsF hHg FG FF NF YF BF XF TF lF
  dsimp only
  k_fold
  refine letX ?_
  intro Mz ez Az
  refine letF FF ?_
  clear FF
  intro mF FF
  obtain ⟨oc, hE, dc⟩ := CellsAre.one YF
  subst hE
  clear YF
  simp only [List.cons_append, List.nil_append] at NF
  have hoff0 : ∀ p ∈ news, p.1 ∉ ([(LF + 1, oc)] : Led).map (·.1) := lt_off1 lF
  walk_at "my_go"
  refine CSrc.mk (by assumption) (by assumption) NF (.tail _ h1) (line_small (by rw [h2.1]; omega)) (fun i ys nw => Grown ([(LF + 1, oc)] ++ news) nw ∧ Each (fun v x => ∃ t, v = Value.str x t) ys ((rows.map (·.1)).take i)) ⟨Grown.refl, .nil⟩ (fun i ys nw z => z.1.1 _ (.tail _ h1)) ?_ ?_
  · intro i v ys nw I oI C oC D m₂ h tk E' hv hI hC hx F1 N1 off ne
    (try k_fold)
    refine gG ?_
    intro Pz kz
    obtain ⟨r, hr, a, t, l, vs, n', rfl, ha, hl, hs⟩ := h2.2 i v hv
    refine kz ?_
    clear kz
    have ha' := hI.1.1 _ (.tail _ ha)
    walk_at "my_go"
    exact LCg.CompEnd.intro (by assumption) (by assumption) nw (fun _ h => h) off trivial ⟨hI.1, hI.2.step (by rw [List.getElem?_map, hr]; rfl) ⟨_, rfl⟩⟩
  · intro g ys nw hI
    unfold LCg.FinA
    intro D h tk F1 N1 o1
    rw [List.take_of_length_le (by rw [List.length_map, h2.1]; exact Nat.le_refl _)] at hI
    have hs := hI.2.strs
    refine gG ?_
    intro Pz kz
    obtain ⟨X1, NR, g1, off1, mem1, new1⟩ := regrow N1 (Grown.cons (off1_ne o1) hI.1) hoff0
    refine kz ?_
    clear kz
    simp only [List.cons_append, List.nil_append] at NR
    have hD : (D, LCg.lst ys) ∈ X1 := new1 _ (.head _) (not_own (newNe' hI.1 (off1_ne o1)))
    have hyl : ys.length ≤ 16777216 := by rw [strs_len hs, List.length_map]; omega
    walk_at "my_go"
    have hDb : (D, LCg.lst ys) ∈ ([(LF + 1, oc)] ++ X1 : Led) := .tail _ hD
    refine CSrc.mk (by assumption) (by assumption) (by assumption) hDb (line_small (by omega)) (fun i ys2 nw => Grown ([(LF + 1, oc)] ++ X1) nw ∧ Each (FlagIn nw (.bool true)) ys2 ((rows.map (·.1)).take i)) ⟨Grown.refl, .nil⟩ (fun i ys nw z => z.1.1 _ hDb) ?_ ?_
    · intro i v ys2 nw2 I oI C oC D2 m₂ h tk E' hv hI2 hC hx F2 N2 off2 ne2
      (try k_fold)
      refine gG ?_
      intro Pz kz
      obtain ⟨x, t, rfl, hx'⟩ := strs_get hs i v hv
      refine kz ?_
      clear kz
      walk_at "my_go"
      rename (News gB LF _ _) => NN
      have hgAll := asIn (base := (I, oI) :: (C, oC) :: (D2, LCg.lst ys2) :: nw2) NN (by walk_at "my_grown")
      rename (_ ∧ _ ∧ _ ∧ AllLt _ _) => l9
      refine LCg.CompEnd.intro (by assumption) NN _ (in3 hgAll) (LCg.Off3.of off_drop3) trivial ⟨hI2.1.drop3 off2.mem hgAll, Each.step (hI2.2.mono fun _ _ z => z.mono fun p hp => mem_drop3' off2.mem hgAll hp) hx' ?_⟩
      refine ⟨_, _, rfl, mem_drop3 (nw := nw2) (oI := oI) (oC := oC) (oD := LCg.lst ys2) (allLt_ne l9) (.head _)⟩
    · intro g2 ys2 nw2 hI2
      unfold LCg.FinE
      intro D2 h2' tk2 F2 N2 o2
      rw [List.take_of_length_le (by rw [strs_len hs]; exact Nat.le_refl _)] at hI2
      refine gG ?_
      intro Pz kz
      obtain ⟨X2, NR2, g2', off2, mem2, new2⟩ := regrow N2 (Grown.cons (off1_ne o2) hI2.1) off1
      refine kz ?_
      clear kz
      simp only [List.cons_append, List.nil_append] at NR2
      walk_at "my_go"
      have hD2 : (D2, LCg.lst ys2) ∈ X2 := new2 _ (.head _) (not_own (newNe' hI2.1 (off1_ne o2)))
      have hDm : (D, LCg.lst ys) ∈ X2 := g2'.1 _ hD
      have hlen2 : ys2.length = rows.length := by rw [hI2.2.1, List.length_map]
      refine gG ?_
      intro Pz kz
      obtain ⟨prs, hpe⟩ : ∃ prs, prs = (rows.map (·.1)).map fun x => (x, Value.bool true) := ⟨_, rfl⟩
      refine kz ?_
      clear kz
      have hpl : prs.length = rows.length := by rw [hpe]; simp
      have hpk : prs.map (·.1) = rows.map (·.1) := by rw [hpe, List.map_map]; exact List.map_id' _
      refine dictPairs (prs := prs) (by assumption) NR2 (Top.nolimit (by assumption)) (by assumption) (.tail _ hD2) (by omega) (by omega) (fun j v hv => ?_) ?_
      · refine gG ?_
        intro Pz kz
        obtain ⟨x, hx, a, t, rfl, hm⟩ := hI2.2.2 j v hv
        refine kz ?_
        clear kz
        refine ⟨a, x, t, _, rfl, by rw [hpe, List.getElem?_map, hx]; rfl, ?_⟩
        rcases mem2 _ (.tail _ hm) with q | q
        · simp only [List.mem_cons, List.not_mem_nil, or_false, Prod.mk.injEq] at q
          have e1 := dc
          rw [← q.2] at e1; cases e1
        · exact .tail _ q
      clear hpe
      intro Dd od hx2 tk3 F3 N3 l3 lo hdo
      (try k_fold)
      have hle := storeAll_le prs []
      have hlt := storeAll_lt prs [] .nil
      have hnew := storeAll_new prs []
      rw [List.nil_append, hpk] at hlt hnew
      rw [List.length_nil, Nat.zero_add] at hle hlt
      obtain ⟨kvd, hkv⟩ : ∃ kvd, storeAll [] prs = kvd := ⟨_, rfl⟩
      rw [hkv] at hdo hle hlt hnew
      have hsz : kvd.length ≤ 16777216 := by omega
      have hyr : ys.length = rows.length := by rw [strs_len hs, List.length_map]
      walk_at "my_go"
      · rename (_ < _) => hc
        have hnn : ¬ (rows.map (·.1)).Nodup := fun q => by
          have := congrArg List.length (hnew q)
          omega
        refine hret _ _ _ ((Dd, od) :: X2) (by assumption) (News.sub (by assumption) ?_) ⟨by rw [isLet, decide_eq_false hnn]; rfl, Grown.cons (allLt_ne ((allLt_of l3).2)) (g1.trans g2')⟩
        exact fun p hp => by
          rcases List.mem_cons.mp hp with rfl | hp
          · exact .head _
          · exact .tail _ (.tail _ hp)
      rename (¬ _ < _) => hc
      have hnd : (rows.map (·.1)).Nodup := Decidable.byContradiction fun q => by
        have := hlt q
        omega
      have h1c : (rl, listO rvs n) ∈ X2 := g2'.1 _ (g1.1 _ h1)
      have h2c : Each (RowIn ((Dd, od) :: (LF + 1, oc) :: X2)) rvs rows := h2.up fun p hp => .tail _ (.tail _ (g2'.1 _ (g1.1 _ hp)))
      walk_at "my_go"
      rename (News gB LF _ _) => N7
      rename (Fr gB LF _ _) => F7
      rename (RchP ..) => hP
      refine gG ?_
      intro Pz kz
      obtain ⟨D7, o7, kv7, rfl, hm7, hg7, hf7, lo7, hd7, ht7⟩ := hP
      refine kz ?_
      clear kz
      have hM7 : ∀ p ∈ ([(Dd, od), (LF + 1, oc)] : Led), ∀ xs n, p.2.data ≠ .seq xs n := by
        refine gG ?_
        intro Pz kz
        obtain ⟨es, ep, _, hde, _⟩ := hdo
        refine kz ?_
        clear kz
        intro p hp xs n q
        simp only [List.mem_cons, List.not_mem_nil, or_false] at hp
        rcases hp with rfl | rfl
        · rw [hde] at q; cases q
        · have e1 := dc
          rw [e1] at q; cases q
      have x1 : ∀ p ∈ X2, p.1 ≠ LF + 1 := notmem_ne off2 (by simp)
      refine gG ?_
      intro Pz kz
      obtain ⟨X7, NR7, g7, off7, mem7, new7⟩ := regrow (M := [(Dd, od), (LF + 1, oc)]) N7 hg7 (fun p hp q => by
        simp only [List.map_cons, List.map_nil, List.mem_cons, List.not_mem_nil, or_false] at q
        rcases q with q | q
        · exact allLt_ne ((allLt_of l3).2) p hp q
        · exact x1 p hp q)
      refine kz ?_
      clear kz
      simp only [List.cons_append, List.nil_append] at NR7
      have hS7 := seqSub_own mem7 hM7
      have ht7' := ht7.monoS hS7
      have hm7' : (D7, o7) ∈ X7 := new7 _ hm7 (not_own fun q hq => hf7 q (List.mem_append_left X2 hq))
      have y1 : ∀ p ∈ X7, p.1 ≠ LF + 1 := notmem_ne off7 (by simp)
      have y2 := neNat (Nat.ne_of_gt (allLt_of l3).1)
      dsimp only at y2
      have y2_s := Ne.symm y2
      walk_at "my_go"
      rename (News gB LF _ _) => N8
      rename (Fr gB LF _ _) => F8
      rename_i h8 oc8 dc8 tkz
      generalize hb8 : ((Dd, od) :: (LF + 1, oc8) :: X7 : Led) = b8 at N8
      have k1 : (LF + 1, oc8) ∈ b8 := by rw [← hb8]; exact .tail _ (.head _)
      have k2 : ∀ p ∈ X7, p ∈ b8 := fun p hp => by rw [← hb8]; exact .tail _ (.tail _ hp)
      have hD8 : (D, LCg.lst ys) ∈ b8 := k2 _ (g7.1 _ hDm)
      refine CSrcT.mk (by assumption) F8 N8 hD8 (line_small (by omega)) (fun i ys nw => Grown b8 nw ∧ Each (fun v x => ∃ t, v = Value.str x t) ys (((rows.map (·.1)).take i).filter fun one => decide (one ∈ tget (reached rows) one))) ⟨Grown.refl, .nil⟩ (fun i ys nw z => z.1.1 _ hD8) ?_ ?_
      · intro i v ys8 nw8 I oI C oC D8 m₂ h8 tk8 E' hv hI8 hC hx F9 N9 off9 ne9
        (try k_fold)
        refine gG ?_
        intro Pz kz
        obtain ⟨x, t, rfl, hx'⟩ := strs_get hs i v hv
        refine kz ?_
        clear kz
        refine gG ?_
        intro Pz kz
        obtain ⟨v9, hv9, l9, us9, n9, rfl, hl9, hs9⟩ := ht7'.at (k := x) (by rw [show (reached rows).map (·.1) = rows.map (·.1) by rw [reached, keys_foldMid, keys_start]]; exact List.mem_of_getElem? hx')
        refine kz ?_
        clear kz
        have q1 := hI8.1.1 _ k1
        have q2 := hI8.1.1 _ (k2 _ hl9)
        have q3 := hI8.1.1 _ (k2 _ hm7')
        walk_at "my_go"
        · rename (x ∈ _) => hc
          exact LCg.CompEnd.intro (by assumption) (by assumption) nw8 (fun _ h => h) off9 trivial ⟨hI8.1, hI8.2.stepT hx' (by simpa using hc) ⟨_, rfl⟩⟩
        · rename (¬ x ∈ _) => hc
          exact LCg.CompEnd.intro (by assumption) (by assumption) nw8 (fun _ h => h) off9 trivial ⟨hI8.1, hI8.2.stepF hx' (by simpa using hc)⟩
      · intro g8 ys8 nw8 hI8
        unfold LCg.FinE
        intro D8 h8 tk8 F9 N9 o9
        rw [List.take_of_length_le (by rw [strs_len hs]; exact Nat.le_refl _)] at hI8
        walk_at "my_go"
        rename (News h₀ L _ _) => kN
        refine gG ?_
        intro Pz kz
        obtain ⟨X9, NR9, g9, _⟩ := regrow (M := [(Dd, od), (LF + 1, oc8)]) (X := X7) (News.sub kN fun p hp => .tail _ (.tail _ hp)) (by rw [← hb8] at hI8; exact hI8.1) off7
        refine kz ?_
        clear kz
        refine hret _ _ _ X9 (by assumption) (News.sub NR9 fun p hp => List.mem_append_right _ hp) ⟨?_, g1.trans (g2'.trans (g7.trans g9))⟩
        have e8 : (ys8 = []) ↔ (((rows.map (·.1)).filter fun one => decide (one ∈ tget (reached rows) one)) = []) := by
          rw [← List.length_eq_zero_iff, ← List.length_eq_zero_iff, hI8.2.1]
        rw [isLet, decide_eq_true hnd, Bool.true_and]
        exact congrArg Value.bool (decide_eq_decide.mpr e8)
theorem islet_spec (w : World) (rl : Addr) (rvs : List Value) (n : Nat) (rows : List Row) (news : Led) (h1 : (rl, listO rvs n) ∈ news) (h2 : Each (RowIn news) rvs rows) (hlen : rows.length ≤ 7) (hsh : ∀ r ∈ rows, r.2.length ≤ 7) :
    CallSpec w 248 [.ref rl] 4 HOk news (fun v news' => v = .bool (isLet rows) ∧ Grown news news') := (islet_specH w rl rvs n rows news h1 h2 hlen hsh).spec
end
end
local macro_rules | `(tactic| walk_at "my_val") => `(tactic| first | assumption | exact valueAt_same _ _ _)
local macro_rules | `(tactic| walk_at "subscriptTail") => `(tactic| (k_here; (with_reducible show wpAny _ _ (subscriptTail _ _ (Value.ref _) (Value.str _ _)) _ _ _); k_dflt (refine kda_item (knd := PySem.strKind _ _) (by k_asm) (by k_mem) (by k_asm) (strKind_is _ _ _ _) (by walk_at "my_val") ?_)))
local macro_rules | `(tactic| walk_at "compareOp In str ref") => `(tactic| (k_here; k_dflt (refine kda_in (knd := PySem.strKind _ _) (by k_asm) (by k_mem) (by k_asm) (by k_asm) (strKind_is _ _ _ _) _ (by first | exact hasKey (by assumption) | exact noKey (by assumption) | exact rfl) ?_)))
local macro_rules | `(tactic| walk_at "compareOp NotIn str ref") => `(tactic| (k_here; k_dflt (refine kdaNotIn (by k_asm) (by k_mem) (by k_asm) (by k_asm) (strKind_is _ _ _ _) _ (by first | exact hasKey (by assumption) | exact noKey (by assumption) | exact rfl) ?_)))
local macro_rules | `(tactic| walk_at "call builtin:len") => `(tactic| (k_here; (with_reducible show wpAny _ _ (call (Value.builtin "len") [Value.ref _]) _ _ _); k_dflt (first
  | refine kda_len (knd := PySem.strKind _ _) (by k_asm) (by k_mem) (by k_asm) (by k_asm) (by first | assumption | omega) ?_
  | (refine lenList (by k_asm) (by k_mem) (by first | assumption | omega) ?_; intro t' tk'))))
local macro_rules | `(tactic| walk_at "setItem ref str") => `(tactic| (k_here; k_dflt (refine' kda_set (knd := PySem.strKind _ _) ?F ?N ?U ?d (strKind_is _ _ _ _) ?z ?_; (case F => k_asm); (case N => k_asm); (case U => k_updF); (case d => k_asm); (case z => walk_at "my_small")); intro h' o' F' N' hd'; (try dsimp only at N')))
local macro_rules | `(tactic| walk_at "getItem ref str") => `(tactic| (k_here; k_dflt (refine kdaGet (by k_asm) (by k_mem) (by k_asm) (strKind_is _ _ _ _) (by walk_at "my_val") ?_)))
local macro_rules | `(tactic| walk_at "call builtin:min") => `(tactic| (k_here; (with_reducible show wpAny _ _ (call (Value.builtin _) [Value.int _ _, Value.int _ _]) _ _ _); k_dflt (refine min_two_N (by exact rfl) (by k_asm) (by k_asm) ?_); intro h' tk' F' N'; (try k_sweep)))
local macro_rules | `(tactic| walk_at "getMethod ref") => `(tactic| (k_here; (with_reducible show wpAny _ _ (getMethod (Value.ref _) (PySem.Str.ofString "get") _) _ _ _); k_dflt (refine kdg_method (knd := PySem.strKind _ _) (by k_asm) (by k_mem) (by k_asm) ?_)))
local macro_rules | `(tactic| walk_at "call builtin:dict.get") => `(tactic| (k_here; k_dflt (refine kdg_get2 (knd := PySem.strKind _ _) (by k_asm) (by k_mem) (by k_asm) (by k_asm) (strKind_is _ _ _ _) (some _) (by walk_at "my_val") ?_); (try dsimp only [Option.getD])))
local macro_rules | `(tactic| walk_at "getMethod ref") => `(tactic| (k_here; k_dflt (refine' method_inst ?k1 ?k2 ?k3 ?k4 ?k5 ?k6 ?k7 ?_; (case k1 => k_asm); (case k2 => k_asm); (case k3 => k_inst); (case k4 => k_is); (case k5 => k_is); (case k6 => k_is); (case k7 => k_get); k_whole)))
local macro_rules | `(tactic| walk_at "my_idx") => `(tactic| first | assumption | exact lidx_last _ _ | exact rfl | exact lidx_nat (by assumption))
local macro_rules | `(tactic| walk_at "my_len") => `(tactic| first | assumption | omega | ((simp only [List.length_cons, List.length_nil, List.length_append] at *); omega))
local macro_rules | `(tactic| walk_at "subscriptTail") => `(tactic| (k_here; (with_reducible show wpAny _ _ (subscriptTail _ _ (Value.ref _) (Value.int _ _)) _ _ _); k_dflt (refine itemAt (by k_asm) (by k_mem) (by walk_at "my_len") (by walk_at "my_idx") ?_)))
local macro_rules | `(tactic| walk_at "getItem ref int") => `(tactic| (k_here; k_dflt (refine getAt (by k_asm) (by k_mem) (by walk_at "my_len") (by walk_at "my_idx") ?_)))
local macro_rules | `(tactic| walk_at "truthy ref") => `(tactic| (k_here; (with_reducible show wpAny _ _ (truthy (Value.ref _)) _ _ _); k_dflt (refine truthList (by k_asm) (by k_mem) (by walk_at "my_len") _ (by first | exact notEmpty_snoc _ _ | exact rfl) ?_)))
local macro_rules | `(tactic| walk_at "getMethod ref") => `(tactic| (k_here; (with_reducible show wpAny _ _ (getMethod (Value.ref _) (PySem.Str.ofString "pop") _) _ _ _); k_dflt (refine' kl_method ?N ?m PySem.F.slot_list_pop PySem.F.type_list_pop ?_; (case N => k_asm); (case m => k_mem))))
local macro_rules | `(tactic| walk_at "call builtin:list.pop") => `(tactic| (k_here; (with_reducible show wpAny _ _ (call (Value.builtin _) [Value.ref _]) _ _ _); k_dflt (refine' popLast ?F ?N ?U ?z ?_; (case F => k_asm); (case N => k_asm); (case U => k_upd); (case z => walk_at "my_len")); intro h' F' N'; (try dsimp only [List.nil_append, List.cons_append] at N'); (try k_sweep)))
local macro_rules | `(tactic| walk_at "getMethod ref") => `(tactic| (k_here; (with_reducible show wpAny _ _ (getMethod (Value.ref _) (PySem.Str.ofString "append") _) _ _ _); k_dflt (refine' listMethod_K ?N ?m PySem.F.slot_list_append PySem.F.type_list_append ?_; (case N => k_asm); (case m => k_mem))))
local macro_rules | `(tactic| walk_at "call builtin:list.append") => `(tactic| (k_here; (with_reducible show wpAny _ _ (call (Value.builtin _) [Value.ref _, _]) _ _ _); k_dflt (refine' appendO ?F ?N ?U ?z ?_; (case F => k_asm); (case N => k_asm); (case U => k_upd); (case z => walk_at "my_len")); intro h' F' N'; (try dsimp only [List.nil_append, List.cons_append] at N'); (try k_sweep)))
local macro_rules | `(tactic| walk_at "setItem ref int") => `(tactic| (k_here; k_dflt (refine' ki_set ?F ?N ?a ?b ?e ?U ?_; (case F => k_asm); (case N => k_asm); (case U => k_upd); (case a => decide); (case b => decide); (case e => rfl)); intro h' F' N'; (try dsimp only [List.nil_append, List.cons_append] at N')))
local macro_rules | `(tactic| walk_at "my_item") => `(tactic| (k_here; (with_reducible show wpAny _ _ (subscriptTail _ _ (Value.ref _) (Value.int _ _)) _ _ _); k_dflt (refine itemAt (by k_asm) (by k_mem) (by walk_at "my_len") (by walk_at "my_idx") ?_)))
local macro_rules | `(tactic| walk_at "subscriptTail Name UnaryOp ref int") => `(tactic| walk_at "my_item")
local macro_rules | `(tactic| walk_at "subscriptTail Name Name ref int") => `(tactic| walk_at "my_item")
local macro_rules | `(tactic| walk_at "subscriptTail Name Constant ref int") => `(tactic| walk_at "my_item")
section
set_option maxHeartbeats 8000000 in
inductive EntP (w : World) (t0 t1 t2 t3 t4 t5 : Tok) (ud dx x nd ld op id fd : Addr) (o5 : Obj) (R : Led) (kv1 kv2 kv4 : List (Str × Value)) (ovs : List Value) (name : Str) (t : Tok) (v : Value) (news' : Led) : Prop where
  | mk (h1_ : v = .none) (o1' : Obj) (o2' : Obj) (o4' : Obj) (n3' : Nat) (u1 : Tok) (u2 : Tok) (h2_ : news' = WK w t0 t1 t2 t3 t4 t5 ud dx x nd ld op id fd o1' o2' (ovs ++ [.str name t]) n3' o4' o5 R) (h3_ : o1'.IsDictOf (PySem.strKind prg w) (stored kv1 name (.int (kv1.length : Nat) u1))) (h4_ : o2'.IsDictOf (PySem.strKind prg w) (stored kv2 name (.int (kv1.length : Nat) u2))) (h5_ : o4'.IsDictOf (PySem.strKind prg w) (stored kv4 name (.bool true))) : EntP w t0 t1 t2 t3 t4 t5 ud dx x nd ld op id fd o5 R kv1 kv2 kv4 ovs name t v news'
theorem enter_spec (w : World) (t0 t1 t2 t3 t4 t5 : Tok) (ud dx x nd ld op id fd : Addr) (O : WOrd dx x nd ld op id fd) (lo : WLo nd ld id) (R : Led)
    (r : WOff dx x nd ld op id fd R) (o1 o2 o4 o5 : Obj) (kv1 kv2 kv4 : List (Str × Value)) (ovs : List Value) (n3 : Nat)
    (hd : WD w o1 o2 o4 kv1 kv2 kv4) (s3 : ovs.length ≤ 1000) (name : Str) (t : Tok) :
    CallSpec w 68 [.ref x, .str name t] 1 anyH (WK w t0 t1 t2 t3 t4 t5 ud dx x nd ld op id fd o1 o2 ovs n3 o4 o5 R)
      (EntP w t0 t1 t2 t3 t4 t5 ud dx x nd ld op id fd o5 R kv1 kv2 kv4 ovs name t) := by
  refine CallSpec.of ?_
  intro p loose mean mg mb hh dp un gd env outer A₀ base h₀ L m hpZ gsZ drZ tkZ osZ Q E B F X N T hf hk hH hdp hun hret
  (try k_fold)
  refine gG ?_
  intro Pz kz
  obtain ⟨q1, q2, q3, q4, q5, q6⟩ := O
  refine kz ?_
  clear kz
  refine gG ?_
  intro Pz kz
  obtain ⟨_, _, r1, r2, r3, r4, _⟩ := r
  refine kz ?_
  clear kz
  obtain ⟨lo1, lo2, lo4⟩ := lo
  refine gG ?_
  intro Pz kz
  obtain ⟨hd1, hd2, hd4, s1, s2, s4⟩ := hd
  refine kz ?_
  clear kz
  dsimp only [WK] at N
  refine wpAny_call ?_
  k_dflt walk_at "my_enter"
  k_steps
  rename (News h₀ L _ _) => kN
  exact hret _ _ _ _ (by assumption) kN ⟨rfl, _, _, _, _, _, _, rfl, by assumption, by assumption, by assumption⟩
end
section
local macro_rules | `(tactic| walk_at "call ref") => `(tactic| (k_here; (with_reducible show wpAny _ _ (call (Value.ref 68) _) _ _ _); k_dflt (walk_at "my_use"; (case kS => exact enter_spec _ _ _ _ _ _ _ _ _ _ _ _ _ _ _ (by assumption) (by assumption) _ (by assumption) _ _ _ _ _ _ _ _ _ (by assumption) (by assumption) _ _); walk_at "my_usedH")))
inductive LokP (w : World) (t0 t1 t2 t3 t4 t5 : Tok) (ud dx x nd ld op id fd : Addr) (sk : Addr) (o1 o2 o4 o5 : Obj) (R : Led) (kv1 kv2 kv4 : List (Str × Value)) (ovs svs : List Value) (n3 n6 : Nat) (name other : Str) (u : Tok) (a : Int) (v : Value) (news' : Led) : Prop where
  | new (e : v = .none) (hno : valueAt kv1 other = none) (o1' o2' o4' : Obj) (n3' : Nat) (u1 u2 : Tok) (fa : Addr) (n6' n7 : Nat) (u3 : Tok) (l1 : ∀ p ∈ R, p.1 < fa) (l2 : fa ≠ sk) (l3 : @LT.lt Nat _ sk fa)
    (en : news' = WK w t0 t1 t2 t3 t4 t5 ud dx x nd ld op id fd o1' o2' (ovs ++ [.str other u]) n3' o4' o5 ((sk, listO (svs ++ [.ref fa]) n6') :: (fa, listO [.str other u, .int 0 u3] n7) :: R))
    (i1 : o1'.IsDictOf (PySem.strKind prg w) (stored kv1 other (.int (kv1.length : Nat) u1))) (i2 : o2'.IsDictOf (PySem.strKind prg w) (stored kv2 other (.int (kv1.length : Nat) u2))) (i4 : o4'.IsDictOf (PySem.strKind prg w) (stored kv4 other (.bool true))) : LokP w t0 t1 t2 t3 t4 t5 ud dx x nd ld op id fd sk o1 o2 o4 o5 R kv1 kv2 kv4 ovs svs n3 n6 name other u a v news'
  | low (e : v = .none) (b : Int) (tb u1 : Tok) (o2' : Obj) (hb : valueAt kv1 other = some (.int b tb)) (hbo : valueAt kv4 other = some (.bool true)) (en : news' = WK w t0 t1 t2 t3 t4 t5 ud dx x nd ld op id fd o1 o2' ovs n3 o4 o5 ((sk, listO svs n6) :: R))
    (i2 : o2'.IsDictOf (PySem.strKind prg w) (stored kv2 name (.int (if b < a then b else a) u1))) : LokP w t0 t1 t2 t3 t4 t5 ud dx x nd ld op id fd sk o1 o2 o4 o5 R kv1 kv2 kv4 ovs svs n3 n6 name other u a v news'
  | same (e : v = .none) (b : Int) (tb : Tok) (hb : valueAt kv1 other = some (.int b tb)) (hbo : valueAt kv4 other = some (.bool false)) (en : news' = WK w t0 t1 t2 t3 t4 t5 ud dx x nd ld op id fd o1 o2 ovs n3 o4 o5 ((sk, listO svs n6) :: R)) : LokP w t0 t1 t2 t3 t4 t5 ud dx x nd ld op id fd sk o1 o2 o4 o5 R kv1 kv2 kv4 ovs svs n3 n6 name other u a v news'
theorem LokP.none {w t0 t1 t2 t3 t4 t5 ud dx x nd ld op id fd sk o1 o2 o4 o5 R kv1 kv2 kv4 ovs svs n3 n6 name other u a v l} (h : LokP w t0 t1 t2 t3 t4 t5 ud dx x nd ld op id fd sk o1 o2 o4 o5 R kv1 kv2 kv4 ovs svs n3 n6 name other u a v l) : v = Value.none := by cases h <;> assumption
set_option maxHeartbeats 8000000 in
theorem look_spec (w : World) (t0 t1 t2 t3 t4 t5 : Tok) (ud dx x nd ld op id fd sk : Addr) (O : WOrd dx x nd ld op id fd) (hsk : @LT.lt Nat _ fd sk) (lo : WLo nd ld id) (R : Led)
    (r : WOff dx x nd ld op id fd R) (rk : ∀ p ∈ R, p.1 ≠ sk) (o1 o2 o4 o5 : Obj) (kv1 kv2 kv4 : List (Str × Value)) (ovs svs : List Value) (n3 n6 : Nat)
    (hd : WD w o1 o2 o4 kv1 kv2 kv4) (s3 : ovs.length ≤ 1000) (s6 : svs.length ≤ 1000) (name other : Str) (t u : Tok) (a : Int) (ta : Tok) (hlow : valueAt kv2 name = some (.int a ta))
    (hnum : ∀ v, valueAt kv1 other = some v → ∃ b tb bo, v = .int b tb ∧ valueAt kv4 other = some (.bool bo)) :
    CallSpec w 89 [.ref x, .str name t, .str other u, .ref sk] 2 noneH (WK w t0 t1 t2 t3 t4 t5 ud dx x nd ld op id fd o1 o2 ovs n3 o4 o5 ((sk, listO svs n6) :: R))
      (LokP w t0 t1 t2 t3 t4 t5 ud dx x nd ld op id fd sk o1 o2 o4 o5 R kv1 kv2 kv4 ovs svs n3 n6 name other u a) := by
  refine CallSpec.of ?_
  intro p loose mean mg mb hh dp un gd env outer A₀ base h₀ L m hpZ gsZ drZ tkZ osZ Q E B F X N T hf hk hH hdp hun hret
  (try k_fold)
  have O' := O
  have hH' : hh = none := hH
  subst hH'
  refine gG ?_
  intro Pz kz
  obtain ⟨q1, q2, q3, q4, q5, q6⟩ := O'
  refine kz ?_
  clear kz
  have r' := r
  refine gG ?_
  intro Pz kz
  obtain ⟨ra, rb, r1, r2, r3, r4, rg⟩ := r'
  refine kz ?_
  clear kz
  have lo' := lo
  obtain ⟨lo1, lo2, lo4⟩ := lo'
  have hd' := hd
  refine gG ?_
  intro Pz kz
  obtain ⟨hd1, hd2, hd4, s1, s2, s4⟩ := hd'
  refine kz ?_
  clear kz
  have r7 : WOff dx x nd ld op id fd ((sk, listO svs n6) :: R) := ⟨ne_cons (by apply Nat.ne_of_gt; omega) ra, ne_cons (by apply Nat.ne_of_gt; omega) rb, ne_cons (by apply Nat.ne_of_gt; omega) r1, ne_cons (by apply Nat.ne_of_gt; omega) r2, ne_cons (by apply Nat.ne_of_gt; omega) r3, ne_cons (by apply Nat.ne_of_gt; omega) r4, ne_cons (by apply Nat.ne_of_gt; omega) rg⟩
  dsimp only [WK] at N
  refine wpAny_call ?_
  k_dflt walk_at "my_enter"
  cases hc : valueAt kv1 other with
  | none =>
    k_steps
    rename (EntP ..) => hP
    refine gG ?_
    intro Pz kz
    obtain ⟨rfl, o1', o2', o4', n3', u1, u2, rfl, e1, e2, e4⟩ := hP
    refine kz ?_
    clear kz
    rename (News _ _ _ _) => N2
    dsimp only [WK] at N2
    rename (Fr _ _ _ _) => F2
    refine Halt.go ?_
    k_steps
    rename (News h₀ L _ _) => kN
    rename (Fr h₀ L _ _) => kF
    rename (_ ∧ _ ∧ _ ∧ _ ∧ _ ∧ _ ∧ _ ∧ _ ∧ AllLt _ _) => l9
    exact hret _ _ _ _ kF (newsMove kN) (.new rfl hc o1' o2' o4' n3' u1 u2 _ _ _ _ (allLt_mem l9.2.2.2.2.2.2.2.2) (Nat.ne_of_gt l9.2.2.2.2.2.2.2.1) l9.2.2.2.2.2.2.2.1 rfl e1 e2 e4)
  | some v =>
    refine gG ?_
    intro Pz kz
    obtain ⟨b, tb, bo, rfl, hbo⟩ := hnum v hc
    refine kz ?_
    clear kz
    cases bo with
    | true =>
      k_steps
      rename (News h₀ L _ _) => kN
      rename (Fr h₀ L _ _) => kF
      exact hret _ _ _ _ kF kN (.low rfl b tb _ _ hc hbo rfl (by assumption))
    | false =>
      k_steps
      rename (News h₀ L _ _) => kN
      rename (Fr h₀ L _ _) => kF
      exact hret _ _ _ _ kF kN (.same rfl b tb hc hbo rfl)
end
local macro_rules | `(tactic| walk_at "exec While") => `(tactic| (k_here; refine halt ?_))
local macro_rules | `(tactic| walk_at "exec While BoolOp") => `(tactic| (k_here; refine halt ?_))
local macro_rules | `(tactic| walk_at "exec While Compare") => `(tactic| (k_here; refine halt ?_))
local macro_rules | `(tactic| walk_at "exec While Name") => `(tactic| (k_here; refine halt ?_))
local macro_rules | `(tactic| walk_at "pyIter ref") => `(tactic| (k_here; refine halt ?_))
local macro_rules | `(tactic| walk_at "my_for") => `(tactic| (k_here; (with_reducible show wpAny _ _ (exec (Stmt.For (Expr.Name _ _) _ _ [] _) _) _ _ _); (with_reducible rename Fr _ _ _ _ => kF); k_dflt (refine For_invVF kF (by rfl) (by rfl) ?_)))
local macro_rules | `(tactic| walk_at "exec For") => `(tactic| walk_at "my_for")
local macro_rules | `(tactic| walk_at "exec For Name Name") => `(tactic| walk_at "my_for")
local macro_rules | `(tactic| walk_at "exec For Name Name cons nil") => `(tactic| walk_at "my_for")
local macro_rules | `(tactic| walk_at "exec For Name Attribute cons nil") => `(tactic| walk_at "my_for")
local macro_rules | `(tactic| walk_at "exec For Name Call cons nil") => `(tactic| walk_at "my_for")
local macro_rules | `(tactic| walk_at "exec For Name Call") => `(tactic| walk_at "my_for")
section
theorem strs_split {ovs : List Value} {pre : List Str} {name : Str} {post : List Str} (h : StrsAre ovs (pre ++ name :: post)) : ∃ pvs t qvs, ovs = pvs ++ .str name t :: qvs ∧ StrsAre pvs pre ∧ StrsAre qvs post := by
  induction pre generalizing ovs with
  | nil => cases h with | cons y t r => exact ⟨[], t, _, rfl, .nil, r⟩
  | cons x r ih => cases h with | cons y t r' => obtain ⟨p, u, q, e, a, b⟩ := ih r'; exact ⟨_ :: p, u, q, by rw [e]; rfl, .cons _ _ a, b⟩
theorem strs_snoc {vs : List Value} {xs : List Str} (h : StrsAre vs xs) : ∀ (ys : List Str) (y : Str), xs = ys ++ [y] → ∃ us t, vs = us ++ [.str y t] ∧ StrsAre us ys := by
  induction h with
  | nil => intro ys y e; cases ys <;> cases e
  | cons z t r ih => intro ys y e; cases ys with
    | nil => cases e; cases r; exact ⟨[], t, rfl, .nil⟩
    | cons a b => cases e; obtain ⟨us, u, e1, e2⟩ := ih b y rfl; exact ⟨_ :: us, u, by rw [e1]; rfl, .cons _ _ e2⟩
theorem leave_tail {name o : Str} {post r' done : List Str} (h : name :: post = (r' ++ [o]) ++ done) (hn : name ∉ post) : r' ≠ [] → name ∉ o :: done := fun hr q => by
  cases r' with
  | nil => exact hr rfl
  | cons z zs =>
    simp only [List.cons_append, List.cons.injEq, List.append_assoc] at h
    apply hn
    rw [h.2]
    rcases List.mem_cons.mp q with q | q <;> simp [q]
inductive LJ (gl : Addr) (w : World) (t0 t1 t2 t3 t4 t5 : Tok) (ud dx x nd ld op id fd : Addr) (o1 o2 : Obj) (kv4 : List (Str × Value)) (fvs : List Value) (n5 : Nat) (R : Led) (name : Str) (pre post : List Str) (f4 : Str → Option Bool) (M0 : Str → Option Value) (n : Nat) (m : Str → Option Value) (nw : Led) : Prop where
  | mk (rest : List Str) (done : List Str) (gvs : List Value) (pvs : List Value) (o4' : Obj) (kv4' : List (Str × Value)) (n1 : Nat) (n2 : Nat) (h1_ : nw = (gl, listO gvs n1) :: WK w t0 t1 t2 t3 t4 t5 ud dx x nd ld op id fd o1 o2 pvs n2 o4' (listO fvs n5) R) (h2_ : m = M0) (h3_ : name :: post = rest ++ done) (h4_ : StrsAre gvs done.reverse) (h5_ : StrsAre pvs (pre ++ rest)) (h6_ : o4'.IsDictOf (PySem.strKind prg w) kv4') (h7_ : kv4'.length = kv4.length) (h8_ : KVR isBool kv4' (offF f4 done)) (h9_ : n = rest.length) (h10_ : rest ≠ [] → name ∉ done) : LJ gl w t0 t1 t2 t3 t4 t5 ud dx x nd ld op id fd o1 o2 kv4 fvs n5 R name pre post f4 M0 n m nw
inductive LevP (w : World) (t0 t1 t2 t3 t4 t5 : Tok) (ud dx x nd ld op id fd : Addr) (o1 o2 o4 : Obj) (R : Led) (kv4 : List (Str × Value)) (ovs fvs : List Value) (n3 n5 : Nat) (name : Str) (a b : Int) (f4 : Str → Option Bool) (pre post : List Str) (v : Value) (news' : Led) : Prop where
  | stay (e : v = .none) (hab : a ≠ b) (en : news' = WK w t0 t1 t2 t3 t4 t5 ud dx x nd ld op id fd o1 o2 ovs n3 o4 (listO fvs n5) R) : LevP w t0 t1 t2 t3 t4 t5 ud dx x nd ld op id fd o1 o2 o4 R kv4 ovs fvs n3 n5 name a b f4 pre post v news'
  | told (e : v = .none) (hab : a = b) (pvs : List Value) (n3' : Nat) (o4' : Obj) (kv4' : List (Str × Value)) (n5' : Nat) (ga : Addr) (gvs : List Value) (n6 : Nat) (en : news' = WK w t0 t1 t2 t3 t4 t5 ud dx x nd ld op id fd o1 o2 pvs n3' o4' (listO (fvs ++ [.ref ga]) n5') ((ga, listO gvs n6) :: R)) (l1 : ∀ p ∈ R, p.1 < ga) (l2 : @LT.lt Nat _ fd ga)
    (i1 : StrsAre pvs pre) (i2 : StrsAre gvs (name :: post).reverse) (i3 : o4'.IsDictOf (PySem.strKind prg w) kv4') (i4 : kv4'.length = kv4.length) (i5 : KVR isBool kv4' (offF f4 (name :: post))) : LevP w t0 t1 t2 t3 t4 t5 ud dx x nd ld op id fd o1 o2 o4 R kv4 ovs fvs n3 n5 name a b f4 pre post v news'
theorem LevP.none {w t0 t1 t2 t3 t4 t5 ud dx x nd ld op id fd o1 o2 o4 R kv4 ovs fvs n3 n5 name a b f4 pre post v l} (h : LevP w t0 t1 t2 t3 t4 t5 ud dx x nd ld op id fd o1 o2 o4 R kv4 ovs fvs n3 n5 name a b f4 pre post v l) : v = Value.none := by cases h <;> assumption
set_option maxHeartbeats 8000000 in
theorem leave_spec (w : World) (t0 t1 t2 t3 t4 t5 : Tok) (ud dx x nd ld op id fd : Addr) (O : WOrd dx x nd ld op id fd) (lo : WLo nd ld id) (R : Led)
    (r : WOff dx x nd ld op id fd R) (o1 o2 o4 : Obj) (kv1 kv2 kv4 : List (Str × Value)) (ovs fvs : List Value) (n3 n5 : Nat)
    (hd : WD w o1 o2 o4 kv1 kv2 kv4) (s3 : ovs.length ≤ 1000) (s5 : fvs.length ≤ 1000) (name : Str) (t : Tok) (a b : Int) (ta tb : Tok) (hlow : valueAt kv2 name = some (.int a ta)) (hnum : valueAt kv1 name = some (.int b tb))
    (f4 : Str → Option Bool) (h4 : KVR isBool kv4 f4) (pre post : List Str) (hov : StrsAre ovs (pre ++ name :: post)) (hnp : name ∉ post) (hop : ∀ y ∈ name :: post, (f4 y).isSome = true) :
    CallSpec w 75 [.ref x, .str name t] 1 noneH (WK w t0 t1 t2 t3 t4 t5 ud dx x nd ld op id fd o1 o2 ovs n3 o4 (listO fvs n5) R)
      (LevP w t0 t1 t2 t3 t4 t5 ud dx x nd ld op id fd o1 o2 o4 R kv4 ovs fvs n3 n5 name a b f4 pre post) := by
  refine CallSpec.of ?_
  intro p loose mean mg mb hh dp un gd env outer A₀ base h₀ L m hpZ gsZ drZ tkZ osZ Q E B F X N T hf hk hH hdp hun hret
  (try k_fold)
  have hH' : hh = none := hH
  subst hH'
  refine gG ?_
  intro Pz kz
  obtain ⟨q1, q2, q3, q4, q5, q6⟩ := O
  refine kz ?_
  clear kz
  refine gG ?_
  intro Pz kz
  obtain ⟨ra, rb, r1, r2, r3, r4, rg⟩ := r
  refine kz ?_
  clear kz
  obtain ⟨lo1, lo2, lo4⟩ := lo
  refine gG ?_
  intro Pz kz
  obtain ⟨hd1, hd2, hd4, s1, s2, s4⟩ := hd
  refine kz ?_
  clear kz
  dsimp only [WK] at N
  refine wpAny_call ?_
  k_dflt walk_at "my_enter"
  k_steps
  · rename (a ≠ b) => hab
    exact hret _ _ _ _ (by assumption) (by assumption) (.stay rfl hab rfl)
  rename (a = b) => hab
  rename (_ ∧ _ ∧ _ ∧ _ ∧ _ ∧ _ ∧ _ ∧ AllLt _ _) => l9
  rename (News _ _ _ _) => N1
  rename (Fr _ _ _ _) => F1
  refine gG ?_
  intro Pz kz
  obtain ⟨g1, g2, g3, g4, g5, g6, g7, g8⟩ := l9
  refine kz ?_
  clear kz
  have r8 := allLt_ne g8
  obtain ⟨M0, hM0, F1'⟩ := frOut F1
  refine Halt.go ?_
  refine While_inv2 (J := LJ _ w t0 t1 t2 t3 t4 t5 ud dx x nd ld op id fd o1 o2 kv4 fvs n5 R name pre post f4 M0) (n₀ := (name :: post).length) F1' N1 ⟨name :: post, [], [], ovs, o4, kv4, _, _, rfl, rfl, (List.append_nil _).symm, .nil, hov, hd4, rfl, h4, rfl, fun _ h => nomatch h⟩ ?_ ?_
  · intro n m₁ nw h1 tk1 F2 N2 hJz
    (try k_fold)
    refine gG ?_
    intro Pz kz
    obtain ⟨rest, done, gvs, pvs, o4', kv4', n1, n2, rfl, rfl, hsp, hg, hp, hd', hl', hk', rfl, hnd⟩ := hJz
    refine kz ?_
    clear kz
    have F3 : Fr _ _ h1 _ := F2
    have N3 : News _ _ h1 _ := N2
    clear F2 N2
    subst hM0
    dsimp only [WK] at N3
    have hpl : pvs.length ≤ 1000 := by
      have e1 := strs_len hp
      have e2 := strs_len hov
      have e3 : (name :: post).length = rest.length + done.length := by rw [hsp, List.length_append]
      simp only [List.length_append] at e1 e2
      omega
    have hgl : gvs.length ≤ 1000 := by
      have e1 := strs_len hg
      have e2 := strs_len hov
      have e3 : (name :: post).length = rest.length + done.length := by rw [hsp, List.length_append]
      simp only [List.length_append, List.length_reverse] at e1 e2
      omega
    have hkl : kv4'.length ≤ 1000 := by omega
    rcases List.eq_nil_or_concat rest with hr | ⟨r', o, hr⟩
    · subst hr
      rw [List.nil_append] at hsp
      rw [← hsp, List.reverse_cons] at hg
      refine gG ?_
      intro Pz kz
      obtain ⟨us, tg, hgv, hus⟩ := strs_snoc hg _ _ rfl
      refine kz ?_
      clear kz
      subst hgv
      k_steps
      · rename ((name != name) = true) => hc
        exact absurd hc (by simp)
      · rename (News h₀ L _ _) => kN
        rename (Fr h₀ L _ _) => kF

        exact hret _ _ _ _ kF (newsMove7 kN) (.told rfl hab pvs n2 o4' kv4' _ _ _ n1 rfl (allLt_mem g8) g7 (by simpa using hp) (by rw [List.reverse_cons]; exact hg) hd' hl' (by rw [hsp]; exact hk'))
    · rw [List.concat_eq_append] at hr
      subst hr
      rw [← List.append_assoc] at hp
      refine gG ?_
      intro Pz kz
      obtain ⟨us, to, hpv, hus⟩ := strs_snoc hp (pre ++ r') o rfl
      refine kz ?_
      clear kz
      subst hpv
      cases done with
      | nil =>
        cases hg
        obtain ⟨bo, hbo⟩ : ∃ bo, valueAt kv4' o = some bo := by
          obtain ⟨bb, hb⟩ := Option.isSome_iff_exists.mp (hop o (by rw [hsp]; simp))
          obtain ⟨v, e, _⟩ := hk'.some (k := o) (b := bb) (by simpa [offF] using hb)
          exact ⟨v, e⟩
        k_steps
        exact ⟨_, _, _, _, r'.length, rfl, by assumption, by assumption, by simp, r', [o], [.str o to], us, _, _, _, _, rfl, rfl, by rw [hsp]; simp, .cons _ _ .nil, hus, by assumption, (stored_old_len hbo).trans hl', offF_cons f4 o [] ▸ hk'.put rfl, rfl, leave_tail hsp hnp⟩
      | cons d ds =>
        rw [List.reverse_cons] at hg
        refine gG ?_
        intro Pz kz
        obtain ⟨us2, tg, hgv, hus2⟩ := strs_snoc hg _ _ rfl
        refine kz ?_
        clear kz
        subst hgv
        have hdn : d ≠ name := fun q => hnd (by simp) (by simp [q])
        obtain ⟨bo, hbo⟩ : ∃ bo, valueAt kv4' o = some bo := by
          by_cases hod : o ∈ d :: ds
          · obtain ⟨v, e, _⟩ := hk'.some (k := o) (b := false) (by simp only [offF, if_pos hod])
            exact ⟨v, e⟩
          · obtain ⟨bb, hb⟩ := Option.isSome_iff_exists.mp (hop o (by rw [hsp]; simp))
            obtain ⟨v, e, _⟩ := hk'.some (k := o) (b := bb) (by simp only [offF, if_neg hod]; exact hb)
            exact ⟨v, e⟩
        k_steps
        · exact ⟨_, _, _, _, r'.length, rfl, by assumption, by assumption, by simp, r', o :: d :: ds, _, us, _, _, _, _, rfl, rfl, by rw [hsp]; simp, by rw [List.reverse_cons, List.reverse_cons]; exact strsCat hg (.cons _ _ .nil), hus, by assumption, (stored_old_len hbo).trans hl', offF_cons f4 o (d :: ds) ▸ hk'.put rfl, rfl, leave_tail hsp hnp⟩
        · rename (_ = false) => hc
          exact absurd hc (by simp [hdn])
  · passes_own
end
section
local macro_rules | `(tactic| walk_at "call ref") => `(tactic| (k_here; (with_reducible show wpAny _ _ (call (Value.ref 68) _) _ _ _); k_dflt (walk_at "my_use"; (case kS => exact enter_spec _ _ _ _ _ _ _ _ _ _ _ _ _ _ _ (by assumption) (by assumption) _ (by assumption) _ _ _ _ _ _ _ _ _ (by assumption) (by assumption) _ _); walk_at "my_used")))
local macro_rules | `(tactic| walk_at "call ref") => `(tactic| (k_here; (with_reducible show wpAny _ _ (call (Value.ref 89) _) _ _ _); refine halt ?_))
local macro_rules | `(tactic| walk_at "call ref") => `(tactic| (k_here; (with_reducible show wpAny _ _ (call (Value.ref 75) _) _ _ _); refine halt ?_))
inductive WalkJ (w : World) (names : List Str) (G : Str → List Str) (t0 t1 t2 t3 t4 t5 : Tok) (ud dx x nd ld op id fd : Addr) (R : Led) (S : TS) (first : Str) (sk : Addr) (M0 : Str → Option Value) (n : Nat) (m : Str → Option Value) (nw : Led) : Prop where
  | mk (S' : TS) (r0' : Nat) (R' : Led) (o1 o2 o4 : Obj) (kv1 kv2 kv4 : List (Str × Value)) (ovs fvs : List Value) (n3 n5 : Nat) (svs : List Value) (n6 : Nat) (u1 u2 u3 : Option Value)
    (e1 : nw = WK w t0 t1 t2 t3 t4 t5 ud dx x nd ld op id fd o1 o2 ovs n3 o4 (listO fvs n5) ((sk, listO svs n6) :: R')) (e2 : m = setM (setM (setM M0 (Str.ofString "name") u1) (Str.ofString "at") u2) (Str.ofString "some") u3)
    (P : PInv names G r0' S') (V : WS w S' o1 o2 o4 kv1 kv2 kv4 ovs fvs R') (g : Grown R R') (o : WOff dx x nd ld op id fd R') (k : ∀ p ∈ R', p.1 ≠ sk) (f : Each (FrameIn R R') svs S'.stk.reverse) (a : (S'.num first).isSome) (b : ∀ y, (S.num y).isSome → (S'.num y).isSome) (e3 : n = left names G 900 S') :
    WalkJ w names G t0 t1 t2 t3 t4 t5 ud dx x nd ld op id fd R S first sk M0 n m nw
inductive WalkP (w : World) (names : List Str) (G : Str → List Str) (t0 t1 t2 t3 t4 t5 : Tok) (ud dx x nd ld op id fd : Addr) (R : Led) (S : TS) (first : Str) (v : Value) (news' : Led) : Prop where
  | mk (e : v = .none) (S' : TS) (r0' : Nat) (R' : Led) (o1 o2 o4 : Obj) (kv1 kv2 kv4 : List (Str × Value)) (ovs fvs : List Value) (n3 n5 : Nat)
    (e1 : news' = WK w t0 t1 t2 t3 t4 t5 ud dx x nd ld op id fd o1 o2 ovs n3 o4 (listO fvs n5) R') (P : PInv names G r0' S') (k : S'.stk = []) (V : WS w S' o1 o2 o4 kv1 kv2 kv4 ovs fvs R') (g : Grown R R') (o : WOff dx x nd ld op id fd R') (a : (S'.num first).isSome) (b : ∀ y, (S.num y).isSome → (S'.num y).isSome) :
    WalkP w names G t0 t1 t2 t3 t4 t5 ud dx x nd ld op id fd R S first v news'
set_option maxHeartbeats 8000000 in
theorem walk_spec (w : World) (names : List Str) (G : Str → List Str) (t0 t1 t2 t3 t4 t5 : Tok) (ud dx x nd ld op id fd : Addr) (O : WOrd dx x nd ld op id fd) (lo : WLo nd ld id) (R : Led) (uo : Obj) (ukvs : List (Str × Value)) (U : WUse w names G ud uo ukvs R)
    (r : WOff dx x nd ld op id fd R) (S : TS) (r0 : Nat) (P : PInv names G r0 S) (hidle : S.stk = []) (o1 o2 o4 : Obj) (kv1 kv2 kv4 : List (Str × Value)) (ovs fvs : List Value) (n3 n5 : Nat)
    (W : WS w S o1 o2 o4 kv1 kv2 kv4 ovs fvs R) (first : Str) (t : Tok) (hin : first ∈ names) (hnew : S.num first = none) :
    CallSpec w 82 [.ref x, .str first t] 3 noneH (WK w t0 t1 t2 t3 t4 t5 ud dx x nd ld op id fd o1 o2 ovs n3 o4 (listO fvs n5) R)
      (WalkP w names G t0 t1 t2 t3 t4 t5 ud dx x nd ld op id fd R S first) := by
  refine CallSpec.of ?_
  intro p loose mean mg mb hh dp un gd env outer A₀ base h₀ L m hpZ gsZ drZ tkZ osZ Q E B F X N T hf hk hH hdp hun hret
  (try k_fold)
  have hH' : hh = none := hH
  subst hH'
  have O' := O
  refine gG ?_
  intro Pz kz
  obtain ⟨q1, q2, q3, q4, q5, q6⟩ := O'
  refine kz ?_
  clear kz
  have r' := r
  refine gG ?_
  intro Pz kz
  obtain ⟨ra, rb, r1, r2, r3, r4, rg⟩ := r'
  refine kz ?_
  clear kz
  have lo' := lo
  obtain ⟨lo1, lo2, lo4⟩ := lo'
  refine gG ?_
  intro Pz kz
  obtain ⟨wd, wl1, wl2, wl4, wn, wlo, wi, wo, wf⟩ := W
  refine kz ?_
  clear kz
  have hopn := P.nil hidle
  have s3 : ovs.length ≤ 1000 := by rw [strs_len wo, hopn]; exact Nat.zero_le _
  dsimp only [WK] at N
  refine wpAny_call ?_
  k_dflt walk_at "my_enter"
  k_steps
  rename (EntP ..) => hP
  refine gG ?_
  intro Pz kz
  obtain ⟨rfl, o1', o2', o4', n3', u1, u2, rfl, e1, e2, e4⟩ := hP
  refine kz ?_
  clear kz
  rename (News _ _ _ _) => N2
  rename (Fr _ _ _ _) => F2
  rename (∀ p ∈ WK _ _ _ _ _ _ _ _ _ _ _ _ _ _ _ _ _ _ _ _ _ _, _) => l1
  rename (_ ∧ AllLt _ _) => l2
  refine gG ?_
  intro Pz kz
  obtain ⟨fa, sk, hfa', hsk', l3, l4⟩ := named2 l2
  refine kz ?_
  clear kz
  subst hfa'
  subst hsk'
  clear l2
  simp only [WK, AllLt] at l4
  refine gG ?_
  intro Pz kz
  obtain ⟨a1, a2, a3, a4, a5, a6, a7, aR⟩ := l4
  refine kz ?_
  clear kz
  have b7 : @LT.lt Nat _ fd fa := l1 (fd, listO fvs n5) (by k_mem)
  have bR : ∀ p ∈ R, p.1 < fa := fun p hp => l1 p (.tail _ (.tail _ (.tail _ (.tail _ (.tail _ (.tail _ (.tail _ hp)))))))
  have N3 := newsMoveB N2
  obtain ⟨M0, hM0, F2'⟩ := frOut F2
  refine Halt.go ?_
  refine While_inv2 (J := WalkJ w names G t0 t1 t2 t3 t4 t5 ud dx x nd ld op id fd R S first sk M0) (n₀ := left names G 900 (enterP S first [(first, 0)])) F2' N3 ?_ ?_ ?_
  · have hcl := P.cntLe
    have hsz := U.sz
    refine ⟨_, _, _, o1', o2', o4', _, _, _, _, _, _, _, [.ref fa], 0, M0 (Str.ofString "name"), M0 (Str.ofString "at"), M0 (Str.ofString "some"), rfl, by rw [setM_self, setM_self, setM_self], P.rootI U.nd hidle hin hnew, (enterWS ⟨wd, wl1, wl2, wl4, wn, wlo, wi, wo, wf⟩ (by omega) hnew (P.lowS _) (P.isoS _) e1 e2 e4 _).mono (wf.mono fun _ _ z => z.mono fun p hp => .tail _ hp), Grown.cons (lt_ne bR) Grown.refl, r.new O b7, ne_cons (Nat.ne_of_lt l3) (allLt_ne aR), ?_, ?_, ?_, rfl⟩
    · exact Each.snoc .nil ⟨fa, _, _, _, rfl, .head _, fun q hq => Nat.ne_of_lt (bR q hq)⟩
    · simp [enterP, updF_self]
    · intro y hy
      by_cases q : y = first
      · subst q; simp [enterP, updF_self]
      · simp only [enterP, updF_ne _ _ q]; exact hy
  · intro n m₁ nw hh1 tk1 F4 N4 hJz
    (try k_fold)
    refine gG ?_
    intro Pz kz
    obtain ⟨S1, r1', R1, p1, p2, p4, kw1, kw2, kw4, ovw, fvw, m3, m5, svs, m6, v1, v2, v3, rfl, rfl, P1, W1, G1, off1, offk, E1, num1, mono1, rfl⟩ := hJz
    refine kz ?_
    clear kz
    have F5 : Fr _ _ hh1 _ := F4
    have N5 : News _ _ hh1 _ := N4
    clear F4 N4
    subst hM0
    dsimp only [WK] at N5
    have sOpn := P1.opnLen
    have sFnd := P1.fndLen
    have sStk := P1.stkLen
    have sCnt := P1.cntLe
    have hsz := U.sz
    have lenS : svs.length = S1.stk.length := by rw [E1.1, List.length_reverse]
    cases hst : S1.stk with
    | nil =>
      have : svs = [] := List.eq_nil_of_length_eq_zero (by rw [lenS, hst]; rfl)
      subst this
      k_steps
      exact hret _ _ _ _ (by assumption) (by assumption) ⟨rfl, S1, r1', _, p1, p2, p4, kw1, kw2, kw4, ovw, fvw, m3, m5, rfl, P1, hst, W1.mono (W1.fnd.mono fun _ _ z => z.mono fun p hp => .tail _ hp), Grown.cons offk G1, off1.new O a7, num1, mono1⟩
    | cons top rest =>
      obtain ⟨xn, at'⟩ := top
      rw [hst, List.reverse_cons] at E1
      refine gG ?_
      intro Pz kz
      obtain ⟨us, v, hsv, hv, E2⟩ := each_last E1
      refine kz ?_
      clear kz
      subst hsv
      refine gG ?_
      intro Pz kz
      obtain ⟨fb, s1, s2, k7, R2, hvfb, hfb, hoffb, hR2, sub2, off2, G2, E3, fnd2⟩ := pullTop N5 (fun p hp => by simp only [List.mem_cons]; simp [hp]) G1 hv E2 (P1.topNe hst) W1.fnd
      refine kz ?_
      clear kz
      subst hvfb
      have hxs := P1.stkI (xn, at') (by rw [hst]; exact .head _)
      refine gG ?_
      intro Pz kz
      obtain ⟨ix, lx, n1, n2, n3', n4'⟩ := P1.opnNum hxs.1
      refine kz ?_
      clear kz
      have hxn := (P1.inn _ _ n1).1
      refine gG ?_
      intro Pz kz
      obtain ⟨vu, hvu, lu, gvs, nu, hvl, hlu, hgs⟩ := U.u xn hxn
      refine kz ?_
      clear kz
      subst hvl
      have hgz := U.gz xn hxn
      have hgl := strs_len hgs
      have hatl : at' ≤ (G xn).length := hxs.2
      have hud := U.d
      have hul := U.lo
      have hum := G2.1 _ U.m
      have hlu2 := G2.1 _ hlu
      have N6 : News _ _ hh1 ((x, instObj 92 dx) :: (dx, wkO w t0 t1 t2 t3 t4 t5 ud nd ld op id fd) :: (nd, p1) :: (ld, p2) :: (op, listO ovw m3) :: (id, p4) :: (fd, listO fvw m5) :: (sk, listO (us ++ [.ref fb]) m6) :: (fb, listO [.str xn s1, .int (at' : Nat) s2] k7) :: R2) := News.sub N5 fun p hp => by
        simp only [List.mem_cons] at hp ⊢
        rcases hp with h | h | h | h | h | h | h | h | h | h
        case inr.inr.inr.inr.inr.inr.inr.inr.inl => rw [h]; simp [hfb]
        case inr.inr.inr.inr.inr.inr.inr.inr.inr => simp [sub2 p h]
        all_goals simp [h]
      clear N5
      have off3 := off1.sub sub2
      have c1 := neNat (off1.a _ hfb)
      have c2 := neNat (off1.b _ hfb)
      have c3 := neNat (off1.c _ hfb)
      have c4 := neNat (off1.d _ hfb)
      have c5 := neNat (off1.e _ hfb)
      have c6 := neNat (off1.f _ hfb)
      have c7 := neNat (off1.g _ hfb)
      have c8 := neNat (offk _ hfb)
      dsimp only at c1 c2 c3 c4 c5 c6 c7 c8
      have c1_s := Ne.symm c1
      have c2_s := Ne.symm c2
      have c3_s := Ne.symm c3
      have c4_s := Ne.symm c4
      have c5_s := Ne.symm c5
      have c6_s := Ne.symm c6
      have c7_s := Ne.symm c7
      have c8_s := Ne.symm c8
      have off4 : ∀ ob, WOff dx x nd ld op id fd ((fb, ob) :: R2) := fun ob => off3.cons c1 c2 c3 c4 c5 c6 c7
      have offk2 : ∀ p ∈ R2, p.1 ≠ sk := fun p hp => offk p (sub2 p hp)
      have dm := off3
      refine gG ?_
      intro Pz kz
      obtain ⟨d1, d2, d3, d4, d5, d6, d7⟩ := dm
      refine kz ?_
      clear kz
      have hwd := W1.d
      have hovl : ovw.length ≤ 1000 := by rw [strs_len W1.opn]; omega
      have hfvl : fvw.length ≤ 1000 := by rw [W1.fnd.1]; omega
      have husl : us.length ≤ 1000 := by rw [List.length_append] at lenS; omega
      rcases Nat.lt_or_ge at' (G xn).length with hlt | hge
      · obtain ⟨ov, hov⟩ : ∃ ov, gvs[at']? = some ov := ⟨gvs[at']'(by omega), List.getElem?_eq_getElem _⟩
        refine gG ?_
        intro Pz kz
        obtain ⟨o, to, hovs, ho⟩ := strs_get hgs at' _ hov
        refine kz ?_
        clear kz
        subst hovs
        refine gG ?_
        intro Pz kz
        obtain ⟨lv, hlv, tlv, hlve⟩ := W1.low.some n2
        refine kz ?_
        clear kz
        subst hlve
        have hknum : ∀ v, valueAt kw1 o = some v → ∃ b tb bo, v = .int b tb ∧ valueAt kw4 o = some (.bool bo) := fun v e => by
          refine gG ?_
          intro Pz kz
          obtain ⟨bn, e1, tb, e2⟩ := kvrGet W1.num e
          refine kz ?_
          clear kz
          have e3 := P1.isoS o
          rw [e1] at e3
          obtain ⟨bo, e4⟩ := Option.isSome_iff_exists.mp e3
          obtain ⟨u, e5, e6⟩ := W1.iso.some e4
          exact ⟨bn, tb, bo, e2, by rw [e5, e6]⟩
        k_steps
        refine Halt.go ?_
        rename (News _ _ _ _) => N7
        rename (Fr _ _ _ _) => F7
        k_dflt walk_at "my_use"
        case kS => exact look_spec w t0 t1 t2 t3 t4 t5 ud dx x nd ld op id fd sk O a7 lo _ (off4 _) (ne_cons c8 offk2) p1 p2 p4 _ kw1 kw2 kw4 ovw (us ++ [.ref fb]) m3 m6 hwd hovl (by rw [List.length_append] at lenS ⊢; omega) xn o s1 to _ tlv hlv hknum
        walk_at "my_used"
        rename (LokP ..) => hP
        obtain rfl := hP.none
        k_steps
        rename (News _ _ _ _) => N8
        rename (Fr _ _ _ _) => F8
        have W2 := W1.mono fnd2
        have hgr : ∀ ob, Grown R ((fb, ob) :: R2) := fun ob => Grown.cons off2 G2
        rcases hP with ⟨_, hno, y1, y2, y4, z3, z1, z2, fa2, z6, z7, z8, hlt2, hne2, hgt2, rfl, i1, i2, i4⟩ | ⟨_, b, tb, z1, y2, hb, hbo, rfl, i2⟩ | ⟨_, b, tb, hb, hbo, rfl⟩
        · have hno' : S1.num o = none := by
            cases q : S1.num o with
            | none => rfl
            | some b => obtain ⟨v, e, _⟩ := W1.num.some q; rw [hno] at e; cases e
          refine ⟨_, _, _, _, _, rfl, F8, N8, left_new P1 U.nd U.cl U.gz hst ho hno', _, r1', _, y1, y2, y4, _, _, _, _, fvw, _, m5, _, z6, _, _, _, rfl, setM3 _ _ _ _ _ _ _ _ _ _, P1.newI U.nd U.cl hst ho hno', (enterWS W2 (by omega) hno' (P1.lowS _) (P1.isoS _) i1 i2 i4 _).mono (fnd2.mono fun _ _ z => z.mono fun p hp => .tail _ (.tail _ hp)), ?_, ?_, ?_, ?_, ?_, ?_, rfl⟩
          · exact Grown.cons (fun q hq => Nat.ne_of_lt (hlt2 q hq)) (hgr _)
          · exact (off4 _).new O (Nat.lt_trans a7 hgt2)
          · exact ne_cons hne2 (ne_cons c8 offk2)
          · simp only [enterP, List.reverse_cons]
            refine ((eachSnoc2 E3 ⟨fb, _, _, _, rfl, .head _, hoffb⟩).mono fun _ _ z => frameMono z fun _ hp => .tail _ hp).snoc ⟨fa2, _, _, _, rfl, .head _, fun q hq => Nat.ne_of_lt (hlt2 q (.tail _ (G2.1 q hq)))⟩
          · by_cases q : first = o
            · rw [q]; simp [enterP, updF_self]
            · simp only [enterP, updF_ne _ _ q]; exact num1
          · intro y hy
            by_cases q : y = o
            · rw [q]; simp [enterP, updF_self]
            · simp only [enterP, updF_ne _ _ q]; exact mono1 y hy
        · refine gG ?_
          intro Pz kz
          obtain ⟨bn, hbn, tb', hbv⟩ := kvrGet W1.num hb
          refine kz ?_
          clear kz
          cases hbv
          have hio : S1.isO o = some true := by obtain ⟨bb, e1, e2⟩ := kvrGet W1.iso hbo; cases e2; exact e1
          exact ⟨_, _, _, _, _, rfl, F8, N8, left_old hst ho, _, r1', _, p1, y2, p4, kw1, _, kw4, ovw, fvw, m3, m5, _, _, _, _, _, rfl, setM3 _ _ _ _ _ _ _ _ _ _, P1.oldI U.cl hst ho n2 hbn _ (.inl ⟨hio, rfl⟩),
            (lowWS W2 n2 (isNat_min _ _ _) i2 _).mono (fnd2.mono fun _ _ z => z.mono fun p hp => .tail _ hp), hgr _, off4 _, ne_cons c8 offk2, by simp only [lowP, List.reverse_cons]; exact eachSnoc2 E3 ⟨fb, _, _, _, rfl, .head _, hoffb⟩, num1, mono1, rfl⟩
        · refine gG ?_
          intro Pz kz
          obtain ⟨bn, hbn, tb', hbv⟩ := kvrGet W1.num hb
          refine kz ?_
          clear kz
          cases hbv
          have hio : S1.isO o = some false := by obtain ⟨bb, e1, e2⟩ := kvrGet W1.iso hbo; cases e2; exact e1
          exact ⟨_, _, _, _, _, rfl, F8, N8, left_old hst ho, _, r1', _, p1, p2, p4, kw1, kw2, kw4, ovw, fvw, m3, m5, _, _, _, _, _, rfl, setM3 _ _ _ _ _ _ _ _ _ _, P1.oldI U.cl hst ho n2 hbn _ (.inr ⟨hio, rfl⟩),
            (sameWS W2 n2 _).mono (fnd2.mono fun _ _ z => z.mono fun p hp => .tail _ hp), hgr _, off4 _, ne_cons c8 offk2, by simp only [lowP, List.reverse_cons]; exact eachSnoc2 E3 ⟨fb, _, _, _, rfl, .head _, hoffb⟩, num1, mono1, rfl⟩
      · have hat : at' = (G xn).length := by omega
        refine gG ?_
        intro Pz kz
        obtain ⟨pre, post, hop, hnp⟩ := P1.split hxs.1
        refine kz ?_
        clear kz
        refine gG ?_
        intro Pz kz
        obtain ⟨lv, hlv, tlv, hlve⟩ := W1.low.some n2
        refine kz ?_
        clear kz
        subst hlve
        refine gG ?_
        intro Pz kz
        obtain ⟨nv, hnv, tnv, hnve⟩ := W1.num.some n1
        refine kz ?_
        clear kz
        subst hnve
        have hov2 := W1.opn
        rw [hop] at hov2
        k_steps
        refine Halt.go ?_
        rename (News _ _ _ _) => N7
        rename (Fr _ _ _ _) => F7
        k_dflt walk_at "my_use"
        case kS => exact leave_spec w t0 t1 t2 t3 t4 t5 ud dx x nd ld op id fd O lo _ ((off4 _).new O a7) p1 p2 p4 kw1 kw2 kw4 ovw fvw m3 m5 hwd hovl hfvl xn s1 _ _ tlv tnv hlv hnv S1.isO W1.iso pre post hov2 hnp (fun y hy => by rw [(P1.opnI y).mp (by rw [hop]; exact List.mem_append_right _ hy)]; rfl)
        walk_at "my_used"
        rename (LevP ..) => hP
        obtain rfl := hP.none
        have W2 := W1.mono fnd2
        have hgr0 : ∀ ob, Grown R ((fb, ob) :: R2) := fun ob => Grown.cons off2 G2
        cases rest with
        | nil =>
          have hus0 : us = [] := List.eq_nil_of_length_eq_zero (by rw [E3.1]; rfl)
          subst hus0
          have hli := P1.rootEq hst n2 n1
          subst hli
          rcases hP with ⟨_, hne, _⟩ | ⟨_, _, pvs, z3, y4, kw4', z5, ga, gvs, z6, rfl, hlt2, hgt2, i1, i2, i3, i4, i5⟩
          · exact absurd rfl hne
          · rename (News _ _ _ _) => N8
            dsimp only [WK] at N8
            have N9 := newsSwap N8
            clear N8
            k_steps
            have fnd3 : Each (TextsIn ((ga, listO gvs z6) :: (fb, listO [.str xn s1, .int (at' : Nat) s2] k7) :: R2)) fvw S1.fnd := fnd2.mono fun _ _ z => z.mono fun p hp => .tail _ (.tail _ hp)
            exact ⟨_, _, _, _, _, rfl, by assumption, N9, left_pop hst, _, r1', _, p1, p2, y4, kw1, kw2, kw4', pvs, _, z3, z5, [], _, _, _, _, rfl, setM3 _ _ _ _ _ _ _ _ _ _, P1.popI hst hat n2 n1 hop, popWS W2 i1 i2 i3 i4 i5 fnd3 (.head _) [],
              Grown.cons (fun q hq => Nat.ne_of_lt (hlt2 q (.tail _ hq))) (Grown.cons off2 G2), (off4 _).new O hgt2, ne_cons (Nat.ne_of_gt (hlt2 _ (.head _))) (ne_cons c8 offk2), .nil, num1, mono1, rfl⟩
        | cons py rest =>
          obtain ⟨yn, ay⟩ := py
          rw [List.reverse_cons] at E3
          refine gG ?_
          intro Pz kz
          obtain ⟨us', v', hus', ⟨fc, s3', s4', k8, rfl, hfc, hoffc⟩, E4⟩ := each_last E3
          refine kz ?_
          clear kz
          subst hus'
          have hys := P1.stkI (yn, ay) (by rw [hst]; exact .tail _ (.head _))
          refine gG ?_
          intro Pz kz
          obtain ⟨iy, ly, m1', m2', m3', m4'⟩ := P1.opnNum hys.1
          refine kz ?_
          clear kz
          refine gG ?_
          intro Pz kz
          obtain ⟨wv, hwv, twv, hwve⟩ := W1.low.some m2'
          refine kz ?_
          clear kz
          subst hwve
          refine gG ?_
          intro Pz kz
          obtain ⟨hwa, hwb, hwc, hwl, hwl2, hwl3⟩ := hwd
          refine kz ?_
          clear kz
          rcases hP with ⟨_, hne, rfl⟩ | ⟨_, heq, pvs, z3, y4, kw4', z5, ga, gvs, z6, rfl, hlt2, hgt2, i1, i2, i3, i4, i5⟩
          · rename (News _ _ _ _) => N8
            dsimp only [WK] at N8
            k_steps
            rename (Obj.IsDictOf _ _ (stored _ _ _)) => i2
            have hne' : lx ≠ ix := fun q => hne (by rw [q])
            exact ⟨_, _, _, _, _, rfl, by assumption, by assumption, left_stay hst, _, r1', _, p1, _, p4, kw1, _, kw4, ovw, fvw, m3, m5, us' ++ [.ref fc], _, _, _, _, rfl, setM3 _ _ _ _ _ _ _ _ _ _, P1.stayI hst n2 n1 m2' hne' _ rfl,
              (lowWS W2 m2' (isNat_min _ _ _) i2 _).mono (fnd2.mono fun _ _ z => z.mono fun p hp => .tail _ hp), hgr0 _, off4 _, ne_cons c8 offk2, by simp only [lowP, List.reverse_cons]; exact E3.mono fun _ _ z => frameMono z fun _ hp => .tail _ hp, num1, mono1, rfl⟩
          · rename (News _ _ _ _) => N8
            dsimp only [WK] at N8
            have N9 := newsSwap N8
            clear N8
            have j1 := Nat.ne_of_gt (hlt2 _ (.head _))
            have j2 := Nat.ne_of_gt (hlt2 _ (.tail _ (.head _)))
            have j3 : ∀ p ∈ R2, p.1 ≠ ga := fun p hp => Nat.ne_of_lt (hlt2 p (.tail _ (.tail _ hp)))
            have j4 : @LT.lt Nat _ fd ga := hgt2
            have j1 := neNat j1
            have j2 := neNat j2
            dsimp only at j1 j2
            have j1_s := Ne.symm j1
            have j2_s := Ne.symm j2
            k_steps
            rename (Obj.IsDictOf _ _ (stored _ _ _)) => k2
            have heq' : lx = ix := by omega
            have fnd3 : Each (TextsIn ((ga, listO gvs z6) :: (fb, listO [.str xn s1, .int (at' : Nat) s2] k7) :: R2)) fvw S1.fnd := fnd2.mono fun _ _ z => z.mono fun p hp => .tail _ (.tail _ hp)
            have hlow : (if lx < ly then lx else ly) = ly := by
              have hsp := P1.stkP
              rw [hst, List.pairwise_cons] at hsp
              refine gG ?_
              intro Pz kz
              obtain ⟨ia, ja, e1, e2, e3⟩ := hsp.1 (yn, ay) (.head _)
              refine kz ?_
              clear kz
              dsimp only at e1 e2 m1'
              rw [n1] at e1
              rw [m1'] at e2
              have g1 := Option.some.inj e1
              have g2 := Option.some.inj e2
              rw [if_neg (by omega)]
            have n1' : S1.num xn = some lx := by rw [heq']; exact n1
            exact ⟨_, _, _, _, _, rfl, by assumption, by assumption, left_pop hst, _, r1', _, p1, _, y4, kw1, _, kw4', pvs, _, z3, z5, us' ++ [.ref fc], _, _, _, _, rfl, setM3 _ _ _ _ _ _ _ _ _ _, P1.popI hst hat n2 n1' hop,
              popWS (lowWSsame W2 (x := yn) m2' (isNat_min' hlow _) k2) i1 i2 i3 i4 i5 fnd3 (.head _) _,
              Grown.cons (fun q hq => Nat.ne_of_lt (hlt2 q (.tail _ hq))) (Grown.cons off2 G2), (off4 _).new O hgt2, ne_cons j1 (ne_cons c8 offk2), by simp only [popP, List.reverse_cons]; exact E3.mono fun _ _ z => frameMono z fun _ hp => .tail _ (.tail _ hp), num1, mono1, rfl⟩
  · passes_own
end
section
theorem wkSub {h₀ h : Heap} {L : Addr} {f i o l n x d : Addr × Obj} {R : Led} (N : News h₀ L h (f :: i :: o :: l :: n :: x :: d :: R)) : News h₀ L h (x :: d :: n :: l :: o :: i :: f :: R) := News.sub N fun p hp => by
  revert p hp; walk_at "my_sub"
inductive WinP (w : World) (ud : Addr) (news : Led) (v : Value) (news' : Led) : Prop where
  | mk (t0 : Tok) (t1 : Tok) (t2 : Tok) (t3 : Tok) (t4 : Tok) (t5 : Tok) (dx : Addr) (x : Addr) (nd : Addr) (ld : Addr) (op : Addr) (id : Addr) (fd : Addr) (o1 : Obj) (o2 : Obj) (o4 : Obj) (h1_ : v = .ref x) (h2_ : WOrd dx x nd ld op id fd) (h3_ : WLo nd ld id) (h4_ : ∀ p ∈ news, p.1 < dx) (h5_ : news' = WK w t0 t1 t2 t3 t4 t5 ud dx x nd ld op id fd o1 o2 [] 0 o4 (listO [] 0) news) (h6_ : WS w tInit o1 o2 o4 [] [] [] [] [] news) : WinP w ud news v news'
set_option maxHeartbeats 8000000 in
theorem winit_spec (w : World) (ud : Addr) (news : Led) :
    CallSpec w 92 [.ref ud] 1 anyH news (WinP w ud news) := by
  refine CallSpec.of ?_
  intro p loose mean mg mb hh dp un gd env outer A₀ base h₀ L m hpZ gsZ drZ tkZ osZ Q E B F X N T hf hk hH hdp hun hret
  (try k_fold)
  k_dflt walk_at "my_cls"
  k_steps
  rename (∀ p ∈ news, p.1 < _) => l1
  rename (_ ∧ _ ∧ _ ∧ _ ∧ _ ∧ _ ∧ AllLt _ _) => l9
  rename (News h₀ L _ _) => N9
  rename (Fr h₀ L _ _) => F9
  refine hret _ _ _ _ F9 (wkSub N9) ⟨_, _, _, _, _, _, _, _, _, _, _, _, _, _, _, _, rfl, ⟨by assumption, by omega, by omega, by omega, by omega, by omega⟩, ⟨by assumption, by assumption, by assumption⟩, l1, rfl, ⟨⟨by assumption, by assumption, by assumption, Nat.zero_le _, Nat.zero_le _, Nat.zero_le _⟩, rfl, rfl, rfl, .nil, .nil, .nil, .nil, .nil⟩⟩
end
section
theorem dropI {h₀ h : Heap} {L : Addr} {all R R' R3 : Led} {I : Addr} {oI : Obj} (N : News h₀ L h all) (hs : ∀ p ∈ R3, p ∈ all) (g : Grown ((I, oI) :: R') R3) (hI : ∀ p ∈ R', p.1 ≠ I) (hsq : ∀ xs n, oI.data ≠ .seq xs n) (gR : Grown R R') :
    ∃ R4 : Led, (∀ p ∈ R4, p ∈ R3) ∧ (∀ p ∈ R4, p.1 ≠ I) ∧ Grown R R4 ∧ SeqSub R3 R4 ∧ (I, oI) ∈ R3 := by
  refine ⟨R3.filter fun p => decide (p.1 ≠ I), fun p hp => (List.mem_filter.mp hp).1, fun p hp => of_decide_eq_true (List.mem_filter.mp hp).2, ⟨fun p hp => ?_, fun p hp => ?_⟩, fun p hp hd => ?_, g.1 _ (.head _)⟩
  · have h1 := gR.1 p hp
    exact List.mem_filter.mpr ⟨g.1 p (.tail _ h1), decide_eq_true (hI p h1)⟩
  · obtain ⟨h1, h2⟩ := List.mem_filter.mp hp
    have h2 : p.1 ≠ I := of_decide_eq_true h2
    rcases g.2 p h1 with k | k
    · rcases List.mem_cons.mp k with k | k
      · exact absurd (congrArg Prod.fst k) h2
      · exact gR.2 p k
    · exact .inr fun q hq => k q (.tail _ (gR.1 q hq))
  · refine List.mem_filter.mpr ⟨hp, decide_eq_true fun e => ?_⟩
    obtain ⟨xs, n, hd⟩ := hd
    have h1 := News.uniq N (hs p hp) (hs _ (g.1 _ (.head _))) e
    rw [h1] at hd
    exact hsq xs n hd
theorem WS.monoS {w : World} {S : TS} {o1 o2 o4 : Obj} {kv1 kv2 kv4 : List (Str × Value)} {ovs fvs : List Value} {R R' : Led} (h : WS w S o1 o2 o4 kv1 kv2 kv4 ovs fvs R) (k : SeqSub R R') : WS w S o1 o2 o4 kv1 kv2 kv4 ovs fvs R' := h.mono (h.fnd.mono fun _ _ z => z.monoS k)
structure Ranked (names g g' : List Str) : Prop where
  len : g'.length = g.length
  inn : ∀ z ∈ g', z ∈ names
  one : ∀ v, g = [v] → g' = [v]
def rankG (names : List Str) (ns : List Int) : List Str := ns.map fun k => names.getD k.toNat Str.empty
theorem idx_get {names : List Str} {z : Str} (h : z ∈ names) : names[names.idxOf z]? = some z := by
  have := List.idxOf_lt_length_of_mem h
  rw [List.getElem?_eq_getElem this, List.getElem_idxOf]
theorem rankG_ok {names g : List Str} {ns : List Int} (hg : ∀ z ∈ g, z ∈ names) (hp : ns.Perm (g.map fun z => ((names.idxOf z : Nat) : Int))) : Ranked names g (rankG names ns) := by
  have back : ∀ z ∈ names, names.getD (((names.idxOf z : Nat) : Int).toNat) Str.empty = z := fun z hz => by
    rw [Int.toNat_natCast, List.getD_eq_getElem?_getD, idx_get hz]; rfl
  refine ⟨by rw [rankG, List.length_map, hp.length_eq, List.length_map], fun z hz => ?_, fun v hv => ?_⟩
  · obtain ⟨k, hk, rfl⟩ := List.mem_map.mp hz
    obtain ⟨u, hu, rfl⟩ := List.mem_map.mp (hp.mem_iff.mp hk)
    rw [back u (hg u hu)]; exact hg u hu
  · subst hv
    have h1 : ns = [((names.idxOf v : Nat) : Int)] := List.perm_singleton.mp hp
    rw [h1, rankG, List.map_cons, List.map_nil, back v (hg v (.head _))]
theorem rank_item {names g : List Str} {ns : List Int} {nvs : List Value} (hn : StrsAre nvs names) (hg : ∀ z ∈ g, z ∈ names) (hp : ns.Perm (g.map fun z => ((names.idxOf z : Nat) : Int))) {k : Int} (hk : k ∈ ns) : ∃ t, lidx nvs k = some (.str (names.getD k.toNat Str.empty) t) := by
  obtain ⟨u, hu, rfl⟩ := List.mem_map.mp (hp.mem_iff.mp hk)
  have h1 := idx_get (hg u hu)
  have h2 := List.idxOf_lt_length_of_mem (hg u hu)
  have h3 : names.idxOf u < nvs.length := by rw [strs_len hn]; exact h2
  obtain ⟨x, t, e1, e2⟩ := strs_get hn _ _ (List.getElem?_eq_getElem h3)
  rw [h1] at e2; cases e2
  refine ⟨t, ?_⟩
  rw [lidx_nat (List.getElem?_eq_getElem h3), e1, Int.toNat_natCast, List.getD_eq_getElem?_getD, h1]; rfl
theorem Each.ints {vs : List Value} {ns : List Int} : Each (fun v (k : Int) => ∃ t, v = Value.int k t) vs ns → IntsAre vs ns := by
  induction vs generalizing ns with
  | nil => intro h; cases ns with
    | nil => exact .nil
    | cons => cases h.1
  | cons v r ih => intro h; cases ns with
    | nil => cases h.1
    | cons x q =>
      obtain ⟨y, a, t, e⟩ := h.2 0 v rfl
      cases a; subst e
      exact .cons _ _ (ih ⟨by simpa using h.1, fun i u e => h.2 (i + 1) u e⟩)
theorem ints_get {vs : List Value} {ns : List Int} (h : IntsAre vs ns) : ∀ (i : Nat) v, vs[i]? = some v → ∃ k t, v = Value.int k t ∧ ns[i]? = some k := by induction h with
  | nil => intro i v e; simp at e
  | cons y t _ ih =>
    intro i v e
    cases i with
    | zero => simp at e; exact ⟨y, t, e.symm, rfl⟩
    | succ i => exact ih i v (by simpa using e)
theorem PInv.fndNames {names : List Str} {G : Str → List Str} {r0 : Nat} {S : TS} (h : PInv names G r0 S) {g : List Str} (hg : g ∈ S.fnd) : ∀ z ∈ g, z ∈ names := fun z hz => by
  have h1 := (h.fndI z).mpr ⟨g, hg, hz⟩
  have h2 := h.isoS z
  rw [h1] at h2
  obtain ⟨i, hi⟩ := Option.isSome_iff_exists.mp h2.symm
  exact (h.inn z i hi).1
theorem PInv.grpLen {names : List Str} {G : Str → List Str} {r0 : Nat} {S : TS} (h : PInv names G r0 S) {g : List Str} (hg : g ∈ S.fnd) : g.length ≤ names.length :=
  nodup_le ((List.pairwise_flatten.mp h.fndN).1 g hg) (h.fndNames hg)
end
section
theorem setM22 (M : Str → Option Value) (a b : Str) (u1 u2 v1 v2 : Option Value) : (fun y => if y = b then v2 else (fun y => if y = a then v1 else (setM (setM M a u1) b u2) y) y) = setM (setM M a v1) b v2 := by
  funext y
  unfold setM
  by_cases h : y = b <;> by_cases k : y = a <;> simp [h, k]
local macro_rules | `(tactic| walk_at "call ref") => `(tactic| (k_here; (with_reducible show wpAny _ _ (call (Value.ref 92) _) _ _ _); k_dflt (walk_at "my_use"; (case kS => exact winit_spec _ _ _); walk_at "my_usedH")))
local macro_rules | `(tactic| walk_at "call ref") => `(tactic| (k_here; (with_reducible show wpAny _ _ (call (Value.ref 82) _) _ _ _); refine halt ?_))
local macro_rules | `(tactic| walk_at "call builtin:sorted") => `(tactic| (k_here; refine halt ?_))
inductive SJ1 (w : World) (pd : Addr) (X : Led) (names : List Str) (M0 : Str → Option Value) (i : Nat) (m : Str → Option Value) (nw : Led) : Prop where
  | mk (po : Obj) (pkvs : List (Str × Value)) (u : Option Value) (h1_ : nw = (pd, po) :: X) (h2_ : m = setM M0 (Str.ofString "name") u) (h3_ : po.IsDictOf (PySem.strKind prg w) pkvs) (h4_ : KVR isNat pkvs (placeF (names.take i))) (h5_ : pkvs.length = i) : SJ1 w pd X names M0 i m nw
inductive SJ2 (w : World) (kd : Addr) (Y : Led) (U : Str → List Str) (names : List Str) (M1 : Str → Option Value) (i : Nat) (m : Str → Option Value) (nw : Led) : Prop where
  | mk (ko : Obj) (kkvs : List (Str × Value)) (u : Option Value) (K : Led) (h1_ : nw = (kd, ko) :: K) (h2_ : m = setM M1 (Str.ofString "name") u) (h3_ : Grown Y K) (h4_ : ∀ p ∈ K, p.1 ≠ kd) (h5_ : ko.IsDictOf (PySem.strKind prg w) kkvs) (h6_ : KVR (fun xs v => TextsIn K v xs) kkvs (onlyF (names.take i) fun y => (U y).filter fun o => decide (o ∈ names))) (h7_ : kkvs.length ≤ i) : SJ2 w kd Y U names M1 i m nw
inductive SJ3 (w : World) (t0 t1 t2 t3 t4 t5 : Tok) (kd dx x nd ld op id fd : Addr) (R : Led) (names : List Str) (Gk : Str → List Str) (M2 : Str → Option Value) (i : Nat) (m : Str → Option Value) (nw : Led) : Prop where
  | mk (S : TS) (r0 : Nat) (R' : Led) (o1 : Obj) (o2 : Obj) (o4 : Obj) (kv1 : List (Str × Value)) (kv2 : List (Str × Value)) (kv4 : List (Str × Value)) (ovs : List Value) (fvs : List Value) (n3 : Nat) (n5 : Nat) (u : Option Value) (h1_ : nw = WK w t0 t1 t2 t3 t4 t5 kd dx x nd ld op id fd o1 o2 ovs n3 o4 (listO fvs n5) R') (h2_ : m = setM M2 (Str.ofString "name") u) (h3_ : PInv names Gk r0 S) (h4_ : S.stk = []) (h5_ : WS w S o1 o2 o4 kv1 kv2 kv4 ovs fvs R') (h6_ : Grown R R') (h7_ : WOff dx x nd ld op id fd R') (h8_ : ∀ y ∈ names.take i, (S.num y).isSome) : SJ3 w t0 t1 t2 t3 t4 t5 kd dx x nd ld op id fd R names Gk M2 i m nw
inductive SJ4 (flx : Addr) (Z : Led) (names : List Str) (S : TS) (M3 : Str → Option Value) (i : Nat) (m : Str → Option Value) (nw : Led) : Prop where
  | mk (gvs : List Value) (n : Nat) (u1 : Option Value) (u2 : Option Value) (K3 : Led) (h1_ : nw = (flx, listO gvs n) :: K3) (h2_ : m = setM (setM M3 (Str.ofString "group") u1) (Str.ofString "ranked") u2) (h3_ : Grown Z K3) (h4_ : ∀ p ∈ K3, p.1 ≠ flx) (h5_ : Each (fun v g => ∃ g', TextsIn K3 v g' ∧ Ranked names g g') gvs (S.fnd.take i)) : SJ4 flx Z names S M3 i m nw
inductive StrP (names : List Str) (U : Str → List Str) (news : Led) (v : Value) (news' : Led) : Prop where
  | mk (fl : Addr) (gvs : List Value) (n : Nat) (S : TS) (r0 : Nat) (h1_ : v = .ref fl) (h2_ : (fl, listO gvs n) ∈ news') (h3_ : ∀ p ∈ news, p.1 ≠ fl) (h4_ : Grown news news') (h5_ : PInv names (fun y => (U y).filter fun o => decide (o ∈ names)) r0 S) (h6_ : S.stk = []) (h7_ : ∀ y ∈ names, (S.num y).isSome) (h8_ : Each (fun v g => ∃ g', TextsIn news' v g' ∧ Ranked names g g') gvs S.fnd) : StrP names U news v news'
set_option maxHeartbeats 8000000 in
theorem strong_spec (w : World) (names : List Str) (hn : names.Nodup) (hsz : names.length ≤ 7) (U : Str → List Str) (hU : ∀ y ∈ names, (U y).length ≤ 20) (nl ud : Addr) (nvs : List Value) (nn : Nat) (uo : Obj) (ukvs : List (Str × Value)) (news : Led) (hnl : (nl, listO nvs nn) ∈ news) (hns : StrsAre nvs names)
    (hud : (ud, uo) ∈ news) (hd : uo.IsDictOf (PySem.strKind prg w) ukvs) (lo : (ud == sysModules) = false) (hu : ∀ y ∈ names, ∃ v, valueAt ukvs y = some v ∧ TextsIn news v (U y)) :
    CallSpec w 101 [.ref nl, .ref ud] 5 noneH news (StrP names U news) := by
  refine CallSpec.of ?_
  intro p loose mean mg mb hh dp un gd env outer A₀ base h₀ L m hpZ gsZ drZ tkZ osZ Q E B F X N T hf hk hH hdp hun hret
  (try k_fold)
  have hH' : hh = none := hH
  subst hH'
  clear hH
  have hH : HOk none h₀ := .inl rfl
  refine wpAny_call ?_
  refine' code_defC ?k1 ?k2 ?k3 ?k4 ?k5 ?kA ?kF ?kK ?k6 ?k7 ?k8 ?k9 ?kB ?kD ?_ ?c2 ?c3 ?c4
  case kA => exact rfl
  case kF => assumption
  case kK => assumption
  case k1 => k_asm
  case k2 => k_asm
  case k3 => k_asm
  case k4 => k_asm
  case k5 => k_asm
  case k6 => k_is
  case k7 => k_is
  case k8 => walk_at "my_room"
  case k9 => exact BindsTo.of_eq rfl
  case kB => exact rfl
  case kD => decide +kernel
  case c2 => exact rfl
  case c3 => exact rfl
  case c4 => exact rfl
  intro gB LF hF tkF cellsF FG FF NF YF BF XF TF lF
  dsimp only
  k_fold
  refine letX ?_
  intro Mz ez Az
  refine letF FF ?_
  clear FF
  intro mF FF
  have hHg := HOk.keeps hH (Fr.keep FG)
  refine gG ?_
  intro Pz kz
  obtain ⟨oc1, oc2, hE, dc1, dc2⟩ := CellsAre.two YF
  refine kz ?_
  clear kz
  subst hE
  clear YF
  simp only [List.cons_append, List.nil_append] at NF
  have x1 : ∀ p ∈ news, p.1 ≠ LF + 1 + 1 := fun p hp e => lt_off2 lF p hp (by rw [e]; exact .head _)
  have x2 : ∀ p ∈ news, p.1 ≠ LF + 1 := fun p hp e => lt_off2 lF p hp (by rw [e]; exact .tail _ (.head _))
  k_steps
  refine Halt.go ?_
  rename_i pd hp po lop hs fs hi fi l1 h2 ocp F1 N1 dcp qkz tkz
  have gpX : ∀ p ∈ ((LF + 1 + 1, ocp) :: (LF + 1, oc2) :: news : Led), p.1 < pd := fun p hp => by
    rcases List.mem_cons.mp hp with rfl | hp
    · exact l1.1
    · rcases List.mem_cons.mp hp with rfl | hp
      · exact l1.2.1
      · exact allLt_mem l1.2.2 p hp
  have hsX : ∀ p ∈ news, p ∈ ((LF + 1 + 1, ocp) :: (LF + 1, oc2) :: news : Led) := fun p hp => .tail _ (.tail _ hp)
  have hc1 : (LF + 1 + 1, ocp) ∈ ((LF + 1 + 1, ocp) :: (LF + 1, oc2) :: news : Led) := .head _
  have hc2 : (LF + 1, oc2) ∈ ((LF + 1 + 1, ocp) :: (LF + 1, oc2) :: news : Led) := .tail _ (.head _)
  generalize hX : ((LF + 1 + 1, ocp) :: (LF + 1, oc2) :: news : Led) = X at N1 gpX hsX hc1 hc2
  have opX := lt_ne gpX
  have hnX := hsX _ hnl
  have hll := strs_len hns
  obtain ⟨M0, hM0, F2⟩ := frOut F1
  refine for_list (J := SJ1 w pd X names M0) hHg F2 N1 (.tail _ hnX)
    ⟨po, [], _, rfl, (setM_self _ _).symm, hs, by rw [List.take_zero, placeF_nil]; exact .nil, rfl⟩ ?_ ?_ ?_
  · intro i m nw hJz
    (try k_fold)
    refine gG ?_
    intro Pz kz
    obtain ⟨po', pkvs, u, rfl, _⟩ := hJz
    refine kz ?_
    clear kz
    exact .tail _ hnX
  · intro i v m₁ nw I oI h tk hv hJ hnI hI₀ F6 N6
    (try k_fold)
    refine gG ?_
    intro Pz kz
    obtain ⟨po', pkvs, u, rfl, rfl, hd1, hk1, hl1⟩ := hJ
    refine kz ?_
    clear kz
    refine gG ?_
    intro Pz kz
    obtain ⟨x, tx, rfl, hx⟩ := strs_get hns i v hv
    refine kz ?_
    clear kz
    have F7 : Fr gB LF h _ := F6
    have N7 : News gB LF h _ := N6
    clear F6 N6
    subst hM0
    have hxi := (List.getElem?_eq_some_iff.mp hx).1
    have i1 := neNat (hnI _ (.head _))
    have i2 : ∀ p ∈ X, p.1 ≠ I := fun p hp => hnI p (.tail _ hp)
    dsimp only at i1
    have i1_s := Ne.symm i1
    k_steps
    rename (News gB LF _ _) => N8
    rename (Fr gB LF _ _) => F8
    rename (Obj.IsDictOf _ _ (stored _ _ _)) => hd2
    exact TurnEnd.intro ((pd, _) :: X) F8 N8 (.head _) (fun p hp => .tail _ hp) (ne_cons i1 i2) ⟨_, _, _, rfl, setM1 _ _ _ _, hd2, by rw [placeF_step hn hx]; exact hk1.put (by rw [hl1]; exact ⟨_, rfl⟩), by rw [stored_len_new (hk1.none (by unfold placeF; rw [if_neg (take_nodup hn hx)])), hl1]⟩
  intro m₁ nw h3 tk3 hJz F3 N3
  (try k_fold)
  refine gG ?_
  intro Pz kz
  obtain ⟨po', pkvs, u, rfl, rfl, hd1, hk1, hl1⟩ := hJz
  refine kz ?_
  clear kz
  have F4 : Fr gB LF h3 _ := F3
  have N4 : News gB LF h3 _ := N3
  clear F3 N3
  rw [List.take_of_length_le (by rw [hll]; exact Nat.le_refl _)] at hk1
  subst hM0
  k_steps
  rename_i kd hk0 ko lok ks kfs ki kfi l2 h4 mz4 F5 N5 qkz2 tkz2
  refine Halt.go ?_
  have gkY : ∀ p ∈ ((pd, po') :: X : Led), p.1 < kd := fun p hp => by
    rcases List.mem_cons.mp hp with rfl | hp
    · exact l2.1
    · exact allLt_mem l2.2 p hp
  have hpY : (pd, po') ∈ ((pd, po') :: X : Led) := .head _
  have hsY : ∀ p ∈ X, p ∈ ((pd, po') :: X : Led) := fun p hp => .tail _ hp
  generalize hY : ((pd, po') :: X : Led) = Y at N5 gkY hpY hsY
  obtain ⟨M1, hM1, F5'⟩ := frOut F5
  have gkz : ∀ y ∈ names, ((U y).filter fun o => decide (o ∈ names)).length ≤ 20 := fun y hy => Nat.le_trans (List.length_filter_le _ _) (hU y hy)
  refine for_list (J := SJ2 w kd Y U names M1) hHg F5' N5 (.tail _ (hsY _ hnX))
    ⟨ko, [], _, Y, rfl, (setM_self _ _).symm, Grown.refl, lt_ne gkY, ks, by rw [List.take_zero, onlyF_nil]; exact .nil, Nat.zero_le _⟩ ?_ ?_ ?_
  · intro i m nw hJz
    (try k_fold)
    refine gG ?_
    intro Pz kz
    obtain ⟨ko', kkvs, u, K, rfl, _, hg, _⟩ := hJz
    refine kz ?_
    clear kz
    exact .tail _ (hg.1 _ (hsY _ hnX))
  · intro i v m₁ nw I oI h tk hv hJ hnI hI₀ F6 N6
    (try k_fold)
    refine gG ?_
    intro Pz kz
    obtain ⟨ko', kkvs, u, K, rfl, rfl, hgK, hoK, hdk, hkk, hlk⟩ := hJ
    refine kz ?_
    clear kz
    refine gG ?_
    intro Pz kz
    obtain ⟨x, tx, rfl, hx⟩ := strs_get hns i v hv
    refine kz ?_
    clear kz
    have F7 : Fr gB LF h _ := F6
    have N7 : News gB LF h _ := N6
    clear F6 N6
    subst hM1
    have hxi := (List.getElem?_eq_some_iff.mp hx).1
    have hxn := List.mem_of_getElem? hx
    have i1 := neNat (hnI _ (.head _))
    have i2 : ∀ p ∈ K, p.1 ≠ I := fun p hp => hnI p (.tail _ hp)
    dsimp only at i1
    have i1_s := Ne.symm i1
    obtain ⟨lvv, hlv, hTx⟩ := hu x hxn
    have hK : ∀ p ∈ news, p ∈ K := fun p hp => hgK.1 _ (hsY _ (hsX _ hp))
    have huK := hK _ hud
    refine gG ?_
    intro Pz kz
    obtain ⟨lu, uvs, un', rfl, hlu, hus⟩ := hTx.mono hK
    refine kz ?_
    clear kz
    have hul := hU x hxn
    have hul2 := strs_len hus
    have hpK := hgK.1 _ hpY
    have hcK := hgK.1 _ (hsY _ hc1)
    k_steps
    rename (_ ∧ _ ∧ AllLt _ K) => l3
    rename (News gB LF _ _) => N8
    rename (Fr gB LF _ _) => F8
    generalize hb8 : (((_ : Addr), W.listOf #[] 0) :: (I, oI) :: (kd, ko') :: K : Led) = b8 at N8
    have kK : ∀ p ∈ K, p ∈ b8 := fun p hp => by rw [← hb8]; exact .tail _ (.tail _ (.tail _ hp))
    have hlu8 := kK _ hlu
    refine CSrcT.mk hHg F8 N8 hlu8 (line_small (by omega)) (fun j ys nw => Grown b8 nw ∧ Each (fun v x => ∃ t, v = Value.str x t) ys (((U x).take j).filter fun o => decide (o ∈ names))) ⟨Grown.refl, .nil⟩ (fun j ys nw z => z.1.1 _ hlu8) ?_ ?_
    · intro j v ys8 nw8 I2 oI2 C oC D8 m₂ h8 tk8 E' hv2 hI8 hC hx2 F9 N9 off9 ne9
      (try k_fold)
      refine gG ?_
      intro Pz kz
      obtain ⟨o, t, rfl, hxo⟩ := strs_get hus j v hv2
      refine kz ?_
      clear kz
      have q1 := hI8.1.1 _ (kK _ hcK)
      have q2 := hI8.1.1 _ (kK _ hpK)
      by_cases ho : o ∈ names
      · obtain ⟨vo, hvo, _⟩ := hk1.some (k := o) (b := names.idxOf o) (by unfold placeF; rw [if_pos ho])
        k_steps
        exact LCg.CompEnd.intro (by assumption) (by assumption) nw8 (fun _ h => h) off9 trivial ⟨hI8.1, hI8.2.stepT hxo (by simpa using ho) ⟨_, rfl⟩⟩
      · have hvo := hk1.none (k := o) (by unfold placeF; rw [if_neg ho])
        k_steps
        exact LCg.CompEnd.intro (by assumption) (by assumption) nw8 (fun _ h => h) off9 trivial ⟨hI8.1, hI8.2.stepF hxo (by simpa using ho)⟩
    · intro g8 ys8 nw8 hI8
      unfold LCg.FinE
      intro D8 h8 tk8 F9 N9 o9
      rw [List.take_of_length_le (by rw [hul2]; exact Nat.le_refl _)] at hI8
      have hs8 := hI8.2.strs
      have hgA : Grown ([(I, oI), (kd, ko')] ++ K) b8 := by rw [← hb8]; exact Grown.cons (ne_cons (Nat.ne_of_lt l3.1) (ne_cons (Nat.ne_of_lt l3.2.1) (allLt_ne l3.2.2))) Grown.refl
      refine gG ?_
      intro Pz kz
      obtain ⟨K2, NR, g2, off2, mem2, new2⟩ := regrow N9 (Grown.trans hgA (Grown.cons (off1_ne o9) hI8.1)) (fun p hp q => by
        simp only [List.map_cons, List.map_nil, List.mem_cons, List.not_mem_nil, or_false] at q
        rcases q with q | q
        · exact i2 p hp q
        · exact hoK p hp q)
      refine kz ?_
      clear kz
      simp only [List.cons_append, List.nil_append] at NR
      have y1 : ∀ p ∈ K2, p.1 ≠ I := notmem_ne off2 (by simp)
      have y2 : ∀ p ∈ K2, p.1 ≠ kd := notmem_ne off2 (by simp)
      have hD8 : (D8, LCg.lst ys8) ∈ K2 := new2 _ (.head _) (not_own (newNe' (hgA.trans hI8.1) (off1_ne o9)))
      k_steps
      rename (News gB LF _ _) => NA
      rename (Fr gB LF _ _) => FA
      rename (Obj.IsDictOf _ _ (stored _ _ _)) => hd2
      exact TurnEnd.intro ((kd, _) :: K2) FA NA (.head _) (fun p hp => .tail _ hp) (ne_cons i1 y1) ⟨_, _, _, K2, rfl, setM1 _ _ _ _, hgK.trans g2, y2, hd2, by rw [onlyF_step _ hx]; exact (hkk.mono fun _ _ z => z.mono g2.1).put ⟨D8, ys8, _, rfl, hD8, hs8⟩, Nat.le_trans (stored_le _ _ _) (by omega)⟩
  intro m₁ nw h3 tk3 hJz F3 N3
  (try k_fold)
  refine gG ?_
  intro Pz kz
  obtain ⟨ko', kkvs, u, K, rfl, rfl, hgK, hoK, hdk, hkk, hlk⟩ := hJz
  refine kz ?_
  clear kz
  have F4 : Fr gB LF h3 _ := F3
  have N4 : News gB LF h3 _ := N3
  clear F3 N3
  rw [List.take_of_length_le (by rw [hll]; exact Nat.le_refl _)] at hkk
  subst hM1
  k_steps
  refine Halt.go ?_
  rename (WinP ..) => hP
  refine gG ?_
  intro Pz kz
  obtain ⟨t0, t1, t2, t3, t4, t5, dx, x, nd, ld, op, id, fd, o1, o2, o4, rfl, O, lo3, hltw, rfl, W0⟩ := hP
  refine kz ?_
  clear kz
  have O' := O
  refine gG ?_
  intro Pz kz
  obtain ⟨q1, q2, q3, q4, q5, q6⟩ := O'
  refine kz ?_
  clear kz
  have hR0 : ∀ p ∈ ((kd, ko') :: K : Led), p.1 < dx := hltw
  have off0 : WOff dx x nd ld op id fd ((kd, ko') :: K) := by
    have h1 : ∀ p ∈ ((kd, ko') :: K : Led), @LT.lt Nat _ p.1 dx := hltw
    refine ⟨fun p hp e => ?_, fun p hp e => ?_, fun p hp e => ?_, fun p hp e => ?_, fun p hp e => ?_, fun p hp e => ?_, fun p hp e => ?_⟩ <;> (have := h1 p hp; rw [e] at this; omega)
  rename (News gB LF _ _) => N6
  rename (Fr gB LF _ _) => F6
  have hkR : (kd, ko') ∈ ((kd, ko') :: K : Led) := .head _
  have hKR : ∀ p ∈ K, p ∈ ((kd, ko') :: K : Led) := fun p hp => .tail _ hp
  have hlR : AllLt dx ((kd, ko') :: K) := allLt_of hltw
  generalize hRe : ((kd, ko') :: K : Led) = R at N6 hR0 off0 hkR hKR hltw hlR W0
  clear hR0
  have hcR1 := hKR _ (hgK.1 _ (hsY _ hc1))
  have hcR2 := hKR _ (hgK.1 _ (hsY _ hc2))
  have hnR := hKR _ (hgK.1 _ (hsY _ hnX))
  dsimp only [WK] at N6
  k_steps
  refine Halt.go ?_
  rename (News gB LF _ _) => N7
  rename (Fr gB LF _ _) => F7
  obtain ⟨M2, hM2, F7'⟩ := frOut F7
  obtain ⟨Gk, hGk⟩ : ∃ Gk : Str → List Str, Gk = fun y => (U y).filter fun o => decide (o ∈ names) := ⟨_, rfl⟩
  rw [← hGk] at hkk
  have hcl : ∀ x ∈ names, ∀ o ∈ Gk x, o ∈ names := fun x _ o ho => by rw [hGk] at ho; exact of_decide_eq_true (List.mem_filter.mp ho).2
  have hgz : ∀ y ∈ names, (Gk y).length ≤ 900 := fun y hy => by rw [hGk]; exact Nat.le_trans (gkz y hy) (by omega)
  have tailW : ∀ {P : Addr × Obj} {a b c d e f g : Addr × Obj} {R' : Led}, P ∈ R' → P ∈ (a :: b :: c :: d :: e :: f :: g :: R' : Led) := fun h => .tail _ (.tail _ (.tail _ (.tail _ (.tail _ (.tail _ (.tail _ h))))))
  refine for_listQ (J := SJ3 w t0 t1 t2 t3 t4 t5 kd dx x nd ld op id fd R names Gk M2) hHg F7' N7 (tailW hnR)
    ⟨tInit, 0, R, o1, o2, o4, [], [], [], [], [], 0, 0, _, rfl, (setM_self _ _).symm, PInv.init, rfl, W0, Grown.refl, off0, fun y hy => by rw [List.take_zero] at hy; cases hy⟩ ?_ ?_ ?_
  · intro i m nw hJz
    (try k_fold)
    refine gG ?_
    intro Pz kz
    obtain ⟨S, r0, R', p1, p2, p4, kv1, kv2, kv4, ovs, fvs, n3, n5, u, rfl, _, _, _, _, hg, _⟩ := hJz
    refine kz ?_
    clear kz
    exact tailW (hg.1 _ hnR)
  · intro i v m₁ nw I oI h tk hv hJ hnI hI₀ hsqI F8 N8
    (try k_fold)
    refine gG ?_
    intro Pz kz
    obtain ⟨S, r0, R', p1, p2, p4, kv1, kv2, kv4, ovs, fvs, n3, n5, u, rfl, rfl, P1, hst, W1, hgR, off1, hall⟩ := hJ
    refine kz ?_
    clear kz
    refine gG ?_
    intro Pz kz
    obtain ⟨y, ty, rfl, hy⟩ := strs_get hns i v hv
    refine kz ?_
    clear kz
    have hyi := (List.getElem?_eq_some_iff.mp hy).1
    have hyn := List.mem_of_getElem? hy
    have F9 : Fr gB LF h _ := F8
    have N9 : News gB LF h _ := N8
    clear F8 N8
    subst hM2
    have wu : WUse w names Gk kd ko' kkvs R' := ⟨hn, hcl, hgR.1 _ hkR, hdk, lok, fun y hy => by
      obtain ⟨v, e1, e2⟩ := hkk.some (k := y) (b := Gk y) (by unfold onlyF; rw [if_pos hy])
      exact ⟨v, e1, e2.mono fun p hp => hgR.1 _ (hKR _ hp)⟩, by omega, hgz⟩
    have hm1 := hgR.1 _ hcR1
    have hm2 := hgR.1 _ hcR2
    have hwd := W1.d
    have hmv := hwd.a
    have hlo1 := lo3.a
    dsimp only [WK] at N9 hnI
    cases hc : S.num y with
    | some b =>
      obtain ⟨vv, hvv, _⟩ := W1.num.some hc
      k_steps
      exact TurnEnd.intro _ (by assumption) (by assumption) (.head _) (fun p hp => .tail _ hp) hnI ⟨S, r0, R', p1, p2, p4, kv1, kv2, kv4, ovs, fvs, n3, n5, _, rfl, setM1 _ _ _ _, P1, hst, W1, hgR, off1, fun z hz => by
        rw [take_snoc hy] at hz
        rcases List.mem_append.mp hz with hz | hz
        · exact hall z hz
        · rw [List.mem_singleton.mp hz, hc]; rfl⟩
    | none =>
      have hvv := W1.num.none hc
      k_steps
      refine Halt.go ?_
      have iR : ∀ p ∈ R', p.1 ≠ I := fun p hp => hnI p (tailW hp)
      have off2 : WOff dx x nd ld op id fd ((I, oI) :: R') := off1.cons (Ne.symm (hnI _ (.head _))) (Ne.symm (hnI _ (.tail _ (.head _)))) (Ne.symm (hnI _ (.tail _ (.tail _ (.head _))))) (Ne.symm (hnI _ (.tail _ (.tail _ (.tail _ (.head _)))))) (Ne.symm (hnI _ (.tail _ (.tail _ (.tail _ (.tail _ (.head _))))))) (Ne.symm (hnI _ (.tail _ (.tail _ (.tail _ (.tail _ (.tail _ (.head _)))))))) (Ne.symm (hnI _ (.tail _ (.tail _ (.tail _ (.tail _ (.tail _ (.tail _ (.head _)))))))))
      have N10 := newsMove7 N9
      clear N9
      k_dflt walk_at "my_use"
      case kS => exact walk_spec w names Gk t0 t1 t2 t3 t4 t5 kd dx x nd ld op id fd O lo3 ((I, oI) :: R') ko' kkvs ⟨wu.nd, wu.cl, .tail _ wu.m, wu.d, wu.lo, fun y hy => let ⟨v, a, b⟩ := wu.u y hy; ⟨v, a, b.mono fun p hp => .tail _ hp⟩, wu.sz, wu.gz⟩ off2 S r0 P1 hst p1 p2 p4 kv1 kv2 kv4 ovs fvs n3 n5 (W1.mono (W1.fnd.mono fun _ _ z => z.mono fun p hp => .tail _ hp)) y ty hyn hc
      walk_at "my_used"
      rename (WalkP ..) => hP
      refine gG ?_
      intro Pz kz
      obtain ⟨rfl, S2, r2, R3, y1, y2, y4, kw1, kw2, kw4, ovw, fvw, m3, m5, rfl, P2, hst2, W2, hg3, off3, hnum2, hmono2⟩ := hP
      refine kz ?_
      clear kz
      k_steps
      rename (News gB LF _ _) => NA
      rename (Fr gB LF _ _) => FA
      refine gG ?_
      intro Pz kz
      obtain ⟨R4, s4, i4, g4, sq4, hI4⟩ := dropI NA (fun p hp => tailW hp) hg3 iR hsqI hgR
      refine kz ?_
      clear kz
      refine TurnEnd.intro (WK w t0 t1 t2 t3 t4 t5 kd dx x nd ld op id fd y1 y2 ovw m3 y4 (listO fvw m5) R4) FA NA (tailW hI4) (fun p hp => ?_) ?_ ⟨S2, r2, R4, y1, y2, y4, kw1, kw2, kw4, ovw, fvw, m3, m5, _, rfl, setM1 _ _ _ _, P2, hst2, W2.monoS sq4, g4, off3.sub s4, fun z hz => ?_⟩
      · simp only [WK, List.mem_cons] at hp ⊢
        rcases hp with h | h | h | h | h | h | h | h
        case inr.inr.inr.inr.inr.inr.inr => simp [s4 p h]
        all_goals simp [h]
      · exact ne_cons (hnI _ (.head _)) (ne_cons (hnI _ (.tail _ (.head _))) (ne_cons (hnI _ (.tail _ (.tail _ (.head _)))) (ne_cons (hnI _ (.tail _ (.tail _ (.tail _ (.head _))))) (ne_cons (hnI _ (.tail _ (.tail _ (.tail _ (.tail _ (.head _)))))) (ne_cons (hnI _ (.tail _ (.tail _ (.tail _ (.tail _ (.tail _ (.head _))))))) (ne_cons (hnI _ (.tail _ (.tail _ (.tail _ (.tail _ (.tail _ (.tail _ (.head _)))))))) i4))))))
      · rw [take_snoc hy] at hz
        rcases List.mem_append.mp hz with hz | hz
        · exact hmono2 z (hall z hz)
        · rw [List.mem_singleton.mp hz]; exact hnum2
  intro m₁ nw h5 tk5 hJz F8 N8
  (try k_fold)
  refine gG ?_
  intro Pz kz
  obtain ⟨S, r0, R', p1, p2, p4, kv1, kv2, kv4, ovs, fvs, n3, n5, u, rfl, rfl, P1, hst, W1, hgR, off1, hall⟩ := hJz
  refine kz ?_
  clear kz
  have F9 : Fr gB LF h5 _ := F8
  have N9 : News gB LF h5 _ := N8
  clear F8 N8
  rw [List.take_of_length_le (by rw [hll]; exact Nat.le_refl _)] at hall
  subst hM2
  have hm1 := hgR.1 _ hcR1
  have hm2 := hgR.1 _ hcR2
  dsimp only [WK] at N9
  k_steps
  rename_i flx hfx l4 hgx mz10 F10 N10 qkz3 tkz3
  refine Halt.go ?_
  have hltZ : ∀ p ∈ ((x, instObj 92 dx) :: (dx, wkO w t0 t1 t2 t3 t4 t5 kd nd ld op id fd) :: (nd, p1) :: (ld, p2) :: (op, listO ovs n3) :: (id, p4) :: (fd, listO fvs n5) :: R' : Led), p.1 < flx := allLt_mem (l := (x, instObj 92 dx) :: (dx, wkO w t0 t1 t2 t3 t4 t5 kd nd ld op id fd) :: (nd, p1) :: (ld, p2) :: (op, listO ovs n3) :: (id, p4) :: (fd, listO fvs n5) :: R') l4
  have hRZ : ∀ p ∈ R', p ∈ ((x, instObj 92 dx) :: (dx, wkO w t0 t1 t2 t3 t4 t5 kd nd ld op id fd) :: (nd, p1) :: (ld, p2) :: (op, listO ovs n3) :: (id, p4) :: (fd, listO fvs n5) :: R' : Led) := fun p hp => tailW hp
  have hfZ : (fd, listO fvs n5) ∈ ((x, instObj 92 dx) :: (dx, wkO w t0 t1 t2 t3 t4 t5 kd nd ld op id fd) :: (nd, p1) :: (ld, p2) :: (op, listO ovs n3) :: (id, p4) :: (fd, listO fvs n5) :: R' : Led) := by k_mem
  generalize hZ : ((x, instObj 92 dx) :: (dx, wkO w t0 t1 t2 t3 t4 t5 kd nd ld op id fd) :: (nd, p1) :: (ld, p2) :: (op, listO ovs n3) :: (id, p4) :: (fd, listO fvs n5) :: R' : Led) = Z at N10 hltZ hRZ hfZ
  have hnews : ∀ p ∈ news, p ∈ R' := fun p hp => hgR.1 _ (hKR _ (hgK.1 _ (hsY _ (hsX _ hp))))
  have hpR := hgR.1 _ (hKR _ (hgK.1 _ hpY))
  have hnlR := hgR.1 _ hnR
  obtain ⟨M3, hM3, F10'⟩ := frOut F10
  refine for_listQ (J := SJ4 flx Z names S M3) hHg F10' N10 (.tail _ hfZ) ⟨[], 0, M3 (Str.ofString "group"), (setM M3 (Str.ofString "group") (M3 (Str.ofString "group"))) (Str.ofString "ranked"), Z, rfl, by rw [setM_self, setM_self], Grown.refl, lt_ne hltZ, by rw [List.take_zero]; exact .nil⟩ ?_ ?_ ?_
  · rintro i m nw ⟨gvs, n, u1, u2, K3, rfl, _, hg, _⟩; exact .tail _ (hg.1 _ hfZ)
  · intro i v m₁ nw I oI h tk hv hJ hnI hI₀ hsqI F8 N8
    (try k_fold)
    refine gG ?_
    intro Pz kz
    obtain ⟨gvs, n, u1, u2, K3, rfl, rfl, hgZ, hoZ, hEa⟩ := hJ
    refine kz ?_
    clear kz
    refine gG ?_
    intro Pz kz
    obtain ⟨g, hgi, lg, gv, ng, rfl, hlg, hgv⟩ := W1.fnd.2 i v hv
    refine kz ?_
    clear kz
    have hgm := List.mem_of_getElem? hgi
    have hgn := P1.fndNames hgm
    have hgl := P1.grpLen hgm
    have hgvl := strs_len hgv
    have FB : Fr gB LF h _ := F8
    have NB : News gB LF h _ := N8
    clear F8 N8
    subst hM3
    have i1 := neNat (hnI _ (.head _))
    have i2 : ∀ p ∈ K3, p.1 ≠ I := fun p hp => hnI p (.tail _ hp)
    dsimp only at i1
    have i1_s := Ne.symm i1
    have up : ∀ p ∈ R', p ∈ K3 := fun p hp => hgZ.1 _ (hRZ p hp)
    have hlg3 := up _ hlg
    have hgi2 := (List.getElem?_eq_some_iff.mp hgi).1
    have hEl := hEa.1
    have hfl := P1.fndLen
    have hEl2 : gvs.length ≤ 1000 := by rw [hEl, List.length_take]; omega
    k_steps
    refine CSrc.mk hHg FB NB (.tail _ (.tail _ hlg3)) (line_small (by omega)) (fun j ys nw => Grown ((I, oI) :: (flx, listO gvs n) :: K3) nw ∧ Each (fun v (k : Int) => ∃ t, v = Value.int k t) ys ((g.map fun z => ((names.idxOf z : Nat) : Int)).take j)) ⟨Grown.refl, by rw [List.take_zero]; exact .nil⟩ (fun j ys nw z => z.1.1 _ (.tail _ (.tail _ hlg3))) ?_ ?_
    · intro j v ys8 nw8 I2 oI2 C oC D8 m₂ h8 tk8 E' hv2 hI8 hC hx2 F9 N9 off9 ne9
      (try k_fold)
      refine gG ?_
      intro Pz kz
      obtain ⟨o, t, rfl, hxo⟩ := strs_get hgv j v hv2
      refine kz ?_
      clear kz
      have q1 := hI8.1.1 _ (.tail _ (.tail _ (up _ hm1)))
      have q2 := hI8.1.1 _ (.tail _ (.tail _ (up _ hpR)))
      have hon := hgn o (List.mem_of_getElem? hxo)
      refine gG ?_
      intro Pz kz
      obtain ⟨vo, hvo, tt, rfl⟩ := hk1.some (k := o) (b := names.idxOf o) (by unfold placeF; rw [if_pos hon])
      refine kz ?_
      clear kz
      k_steps
      exact LCg.CompEnd.intro (by assumption) (by assumption) nw8 (fun _ h => h) off9 trivial ⟨hI8.1, hI8.2.step (by rw [List.getElem?_map, hxo]; rfl) ⟨_, rfl⟩⟩
    · intro g8 ys8 nw8 hI8
      unfold LCg.FinE
      intro D8 h8 tk8 F9 N9 o9
      rw [List.take_of_length_le (by rw [List.length_map, hgvl]; exact Nat.le_refl _)] at hI8
      have hys := hI8.2.ints
      have hyl := hI8.2.1
      rw [List.length_map] at hyl
      k_steps
      refine Halt.go ?_
      refine sorted_N F9 N9 (isListN N9 (.head _)) hys (by omega) fun h9 vs9 ns9 e9 FC NC hI9 hp9 hs9 => ?_
      have hv9 := IntsAre.length hI9
      have hn9 := hp9.length_eq
      rw [List.length_map] at hn9
      have hgA := Grown.cons (o := LCg.lst ys8) (off1_ne o9) hI8.1
      have hlt9 : ∀ p ∈ ((D8, LCg.lst ys8) :: nw8 : Led), p.1 ≠ h8.objs.size + 1 := fun p hp e => by
        have := Heap.lt_size (N9 p hp).1
        rw [e] at this
        exact absurd this (Nat.not_lt.mpr (Nat.le_succ _))
      have hgB := Grown.cons (o := seqObj "list" vs9.toArray e9) hlt9 hgA
      have hgC : Grown ([(I, oI), (flx, listO gvs n)] ++ K3) _ := hgB
      refine gG ?_
      intro Pz kz
      obtain ⟨K4, NR, g4, off4, mem4, new4⟩ := regrow NC hgC (fun p hp q => by
        simp only [List.map_cons, List.map_nil, List.mem_cons, List.not_mem_nil, or_false] at q
        rcases q with q | q
        · exact i2 p hp q
        · exact hoZ p hp q)
      refine kz ?_
      clear kz
      simp only [List.cons_append, List.nil_append] at NR
      have y1 : ∀ p ∈ K4, p.1 ≠ I := notmem_ne off4 (by simp)
      have y2 : ∀ p ∈ K4, p.1 ≠ flx := notmem_ne off4 (by simp)
      have hr4 : (h8.objs.size + 1, listO vs9 e9) ∈ K4 := new4 _ (.head _) (not_own (newNe' (M := [(I, oI), (flx, listO gvs n)]) hgA hlt9))
      clear NC N9 hlt9 hgA hgB hgC
      generalize h8.objs.size + 1 = rl at hr4
      k_steps
      rename (News gB LF _ _) => ND
      rename (Fr gB LF _ _) => FD
      have up4 : ∀ p ∈ R', p ∈ K4 := fun p hp => g4.1 _ (up p hp)
      have hRk := rankG_ok hgn hp9
      refine CSrc.mk hHg FD ND (.tail _ (.tail _ hr4)) (line_small (by omega)) (fun j ys nw => Grown ((I, oI) :: (flx, listO gvs n) :: K4) nw ∧ Each (fun v x => ∃ t, v = Value.str x t) ys ((rankG names ns9).take j)) ⟨Grown.refl, by rw [List.take_zero]; exact .nil⟩ (fun j ys nw z => z.1.1 _ (.tail _ (.tail _ hr4))) ?_ ?_
      · intro j v ysB nwB I2 oI2 C oC DB m₂ hB tkB E' hv2 hIB hC hx2 FE NE offB neB
        (try k_fold)
        refine gG ?_
        intro Pz kz
        obtain ⟨k, t, rfl, hkj⟩ := ints_get hI9 j v hv2
        refine kz ?_
        clear kz
        obtain ⟨t', hit⟩ := rank_item hns hgn hp9 (List.mem_of_getElem? hkj)
        have q1 := hIB.1.1 _ (.tail _ (.tail _ (up4 _ hm2)))
        have q2 := hIB.1.1 _ (.tail _ (.tail _ (up4 _ hnlR)))
        k_steps
        exact LCg.CompEnd.intro (by assumption) (by assumption) nwB (fun _ h => h) offB trivial ⟨hIB.1, hIB.2.step (by unfold rankG; rw [List.getElem?_map, hkj]; rfl) ⟨_, rfl⟩⟩
      · intro gB' ysB nwB hIB
        unfold LCg.FinE
        intro DB hB tkB FE NE oB
        rw [List.take_of_length_le (by rw [rankG, List.length_map, hv9]; exact Nat.le_refl _)] at hIB
        have hsB := hIB.2.strs
        have hgB2 := Grown.cons (o := LCg.lst ysB) (off1_ne oB) hIB.1
        have hgC2 : Grown ([(I, oI), (flx, listO gvs n)] ++ K4) _ := hgB2
        refine gG ?_
        intro Pz kz
        obtain ⟨K5, NR5, g5, off5, mem5, new5⟩ := regrow NE hgC2 (fun p hp q => by
          simp only [List.map_cons, List.map_nil, List.mem_cons, List.not_mem_nil, or_false] at q
          rcases q with q | q
          · exact y1 p hp q
          · exact y2 p hp q)
        refine kz ?_
        clear kz
        simp only [List.cons_append, List.nil_append] at NR5
        have z1 : ∀ p ∈ K5, p.1 ≠ I := notmem_ne off5 (by simp)
        have z2 : ∀ p ∈ K5, p.1 ≠ flx := notmem_ne off5 (by simp)
        have hDB : (DB, LCg.lst ysB) ∈ K5 := new5 _ (.head _) (not_own (newNe' (M := [(I, oI), (flx, listO gvs n)]) hIB.1 (off1_ne oB)))
        clear NE hgB2 hgC2
        k_steps
        rename (News gB LF _ _) => NF5
        rename (Fr gB LF _ _) => FF5
        exact TurnEnd.intro ((flx, _) :: K5) FF5 NF5 (.head _) (fun p hp => .tail _ hp) (ne_cons i1 z1) ⟨_, _, _, _, K5, rfl, setM22 _ _ _ _ _ _ _, hgZ.trans (g4.trans g5), z2, (hEa.mono fun _ _ ⟨g', a, b⟩ => ⟨g', a.mono fun p hp => g5.1 _ (g4.1 _ hp), b⟩).step hgi ⟨_, ⟨DB, ysB, _, rfl, hDB, hsB⟩, hRk⟩⟩
  intro m₁ nw h6 tk6 hJz F8 N8
  (try k_fold)
  refine gG ?_
  intro Pz kz
  obtain ⟨gvs, n, u1, u2, K3, rfl, rfl, hgZ, hoZ, hEa⟩ := hJz
  refine kz ?_
  clear kz
  have FB : Fr gB LF h6 _ := F8
  have NB : News gB LF h6 _ := N8
  clear F8 N8
  rw [List.take_of_length_le (by rw [W1.fnd.1]; exact Nat.le_refl _)] at hEa
  subst hM3
  k_steps
  have gnX : Grown news X := by rw [← hX]; exact Grown.cons (ne_cons (by exact Nat.ne_of_lt (Nat.lt_succ_self _)) x1) (Grown.cons x2 Grown.refl)
  have gXY : Grown X Y := by rw [← hY]; exact Grown.cons opX Grown.refl
  have gKR : Grown K R := by rw [← hRe]; exact Grown.cons hoK Grown.refl
  have gRZ : Grown R' Z := by
    refine ⟨hRZ, fun p hp => ?_⟩
    rw [← hZ] at hp
    simp only [List.mem_cons] at hp
    refine gG ?_
    intro Pz kz
    obtain ⟨a1, a2, a3, a4, a5, a6, a7⟩ := off1
    refine kz ?_
    clear kz
    rcases hp with rfl | rfl | rfl | rfl | rfl | rfl | rfl | hp
    · exact .inr a1
    · exact .inr a2
    · exact .inr a3
    · exact .inr a4
    · exact .inr a5
    · exact .inr a6
    · exact .inr a7
    · exact .inl hp
  have hgF : Grown news ((flx, listO gvs n) :: K3) := ((((((gnX.trans gXY).trans hgK).trans gKR).trans hgR).trans gRZ).trans hgZ).trans (Grown.cons hoZ Grown.refl)
  rename News h₀ L _ _ => NZ
  rename Fr h₀ L _ _ => FZ
  exact hret _ _ _ _ FZ NZ ⟨flx, gvs, n, S, r0, rfl, .head _, fun p hp => hoZ p (hgZ.1 _ (hRZ _ (hnews p hp))), hgF, by rw [← hGk]; exact P1, hst, hall, hEa.mono fun _ _ ⟨g', a, b⟩ => ⟨g', a.mono fun p hp => .tail _ hp, b⟩⟩
end
section
/-- an Import: only its module's name is told -/
abbrev impO (w : World) (t0 t1 t2 t3 t4 t5 : Tok) (x : Str) (t : Tok) : Obj := dictOf [dEnt w "place" t0 .none, dEnt w "module" t1 (.str x t), dEnt w "names" t2 .none, dEnt w "hiding" t3 (.bool false), dEnt w "qualified" t4 (.bool false), dEnt w "alias" t5 .none] 6
abbrev modO (w : World) (t0 t1 t2 t3 t4 t5 : Tok) (x : Str) (t : Tok) (il dl : Addr) : Obj := dictOf [dEnt w "place" t0 .none, dEnt w "name" t1 (.str x t), dEnt w "exports" t2 .none, dEnt w "\x69mports" t3 (.ref il), dEnt w "decls" t4 (.ref dl), dEnt w "binds" t5 .none] 6
local macro_rules | `(tactic| walk_at "call ref") => `(tactic| (k_here; (with_reducible show wpAny _ _ (call (Value.ref 127) _) _ _ _); k_dflt (refine wpAny_call ?_; walk_at "my_enter")))
inductive ImpP (w : World) (x : Str) (t : Tok) (news : Led) (v : Value) (news' : Led) : Prop where
  | mk (a : Addr) (d : Addr) (t0 : Tok) (t1 : Tok) (t2 : Tok) (t3 : Tok) (t4 : Tok) (t5 : Tok) (h1_ : v = .ref a) (h2_ : ∀ p ∈ news, p.1 < d) (h3_ : @LT.lt Nat _ d a) (h4_ : news' = (a, instObj 193 d) :: (d, impO w t0 t1 t2 t3 t4 t5 x t) :: news) : ImpP w x t news v news'
set_option maxHeartbeats 8000000 in
theorem imp_spec (w : World) (x : Str) (t : Tok) (news : Led) :
    CallSpec w 193 [.str x t, .none, .bool false, .bool false, .none] 2 anyH news (ImpP w x t news) := by
  refine CallSpec.of ?_
  intro p loose mean mg mb hh dp un gd env outer A₀ base h₀ L m hpZ gsZ drZ tkZ osZ Q E B F X N T hf hk hH hdp hun hret
  (try k_fold)
  k_dflt walk_at "my_cls"
  k_steps
  rename (News h₀ L _ _) => N9
  rename (Fr h₀ L _ _) => F9
  exact hret _ _ _ _ F9 N9 ⟨_, _, _, _, _, _, _, _, rfl, by assumption, by assumption, rfl⟩
inductive ModP (w : World) (x : Str) (t : Tok) (il dl : Addr) (news : Led) (v : Value) (news' : Led) : Prop where
  | mk (a : Addr) (d : Addr) (t0 : Tok) (t1 : Tok) (t2 : Tok) (t3 : Tok) (t4 : Tok) (t5 : Tok) (h1_ : v = .ref a) (h2_ : ∀ p ∈ news, p.1 < d) (h3_ : @LT.lt Nat _ d a) (h4_ : news' = (a, instObj 166 d) :: (d, modO w t0 t1 t2 t3 t4 t5 x t il dl) :: news) : ModP w x t il dl news v news'
set_option maxHeartbeats 8000000 in
theorem mod_spec (w : World) (x : Str) (t : Tok) (il dl : Addr) (news : Led) :
    CallSpec w 166 [.str x t, .none, .ref il, .ref dl] 2 anyH news (ModP w x t il dl news) := by
  refine CallSpec.of ?_
  intro p loose mean mg mb hh dp un gd env outer A₀ base h₀ L m hpZ gsZ drZ tkZ osZ Q E B F X N T hf hk hH hdp hun hret
  (try k_fold)
  k_dflt walk_at "my_cls"
  k_steps
  rename (News h₀ L _ _) => N9
  rename (Fr h₀ L _ _) => F9
  exact hret _ _ _ _ F9 N9 ⟨_, _, _, _, _, _, _, _, rfl, by assumption, by assumption, rfl⟩
/-- an Import of a text in the ledger -/
inductive ImpIn (w : World) (K : Led) (v : Value) (x : Str) : Prop where
  | mk (a d : Addr) (t0 t1 t2 t3 t4 t5 t : Tok) (e : v = .ref a) (h : (a, instObj 193 d) ∈ K) (hd : (d, impO w t0 t1 t2 t3 t4 t5 x t) ∈ K) : ImpIn w K v x
theorem ImpIn.mono {w : World} {K K' : Led} {v : Value} {x : Str} (h : ImpIn w K v x) (k : ∀ p ∈ K, p ∈ K') : ImpIn w K' v x := let ⟨a, d, t0, t1, t2, t3, t4, t5, t, e, b, c⟩ := h; ⟨a, d, t0, t1, t2, t3, t4, t5, t, e, k _ b, k _ c⟩
/-- a Module of a row in the ledger -/
inductive ModIn (w : World) (K : Led) (v : Value) (r : Row) : Prop where
  | mk (a d : Addr) (t0 t1 t2 t3 t4 t5 t : Tok) (il dl : Addr) (ivs : List Value) (n : Nat) (e : v = .ref a) (h : (a, instObj 166 d) ∈ K) (hd : (d, modO w t0 t1 t2 t3 t4 t5 r.1 t il dl) ∈ K) (hl : (il, listO ivs n) ∈ K) (hi : Each (ImpIn w K) ivs r.2) : ModIn w K v r
theorem ModIn.mono {w : World} {K K' : Led} {v : Value} {r : Row} (h : ModIn w K v r) (k : ∀ p ∈ K, p ∈ K') : ModIn w K' v r := let ⟨a, d, t0, t1, t2, t3, t4, t5, t, il, dl, ivs, n, e, b, c, f, g⟩ := h; ⟨a, d, t0, t1, t2, t3, t4, t5, t, il, dl, ivs, n, e, k _ b, k _ c, k _ f, g.mono fun _ _ z => z.mono k⟩
end
section
set_option maxHeartbeats 8000000 in
theorem round_spec (w : World) (gl ud : Addr) (gvs : List Value) (n : Nat) (g : List Str) (x : Str) (r : List Str) (uo : Obj) (ukvs : List (Str × Value)) (v : Value) (us : List Str) (news : Led) (h1 : (gl, listO gvs n) ∈ news) (hs : StrsAre gvs g) (hg : g = x :: r) (hsz : g.length ≤ 1000)
    (hud : (ud, uo) ∈ news) (hd : uo.IsDictOf (PySem.strKind prg w) ukvs) (lo : (ud == sysModules) = false) (hv : valueAt ukvs x = some v) (hu : TextsIn news v us) :
    CallSpec w 108 [.ref gl, .ref ud] 1 anyH news (fun v news' => ∃ b, v = .bool b ∧ Grown news news' ∧ (b = true ↔ 1 < g.length ∨ x ∈ us)) := by
  refine CallSpec.of ?_
  intro p loose mean mg mb hh dp un gd env outer A₀ base h₀ L m hpZ gsZ drZ tkZ osZ Q E B F X N T hf hk hH hdp hun hret
  (try k_fold)
  refine gG ?_
  intro Pz kz
  obtain ⟨ul, uvs, un', rfl, hul, hus⟩ := hu
  refine kz ?_
  clear kz
  have hgl := strs_len hs
  subst hg
  cases hs with | cons _ t hr =>
  have hrl := strs_len hr
  rename List Value => rvs
  refine wpAny_call ?_
  k_dflt walk_at "my_enter"
  k_steps
  · refine hret _ _ _ _ (by assumption) (by assumption) ⟨_, rfl, by walk_at "my_grown", ?_⟩
    rename (1 < _) => hc
    rw [hgl] at hc
    rw [decide_eq_true_eq, hgl]
    exact ⟨fun h => .inl (by omega), fun _ => by omega⟩
  · refine hret _ _ _ _ (by assumption) (by assumption) ⟨_, rfl, by walk_at "my_grown", ?_⟩
    rename (¬ 1 < _) => hc
    rw [hgl] at hc
    rw [decide_eq_true_eq]
    exact ⟨.inr, fun h => h.elim (fun q => absurd (by omega) hc) id⟩
end
section
local macro_rules | `(tactic| walk_at "call ref") => `(tactic| (k_here; (with_reducible show wpAny _ _ (call (Value.ref 193) _) _ _ _); k_dflt (walk_at "my_use"; (case kS => exact imp_spec _ _ _ _); walk_at "my_usedH")))
inductive AllP (w : World) (r : Row) (ivs : List Value) (news : Led) (v : Value) (news' : Led) : Prop where
  | mk (h1_ : Grown news news') (l : Addr) (vs : List Value) (k : Nat) (h2_ : v = .ref l) (h3_ : (l, listO vs k) ∈ news') (h4_ : (vs = ivs ∧ needs r = r.2) ∨ ∃ x, vs = x :: ivs ∧ needs r = ("Prelude" : Str) :: r.2 ∧ ImpIn w news' x "Prelude") : AllP w r ivs news v news'
set_option maxHeartbeats 8000000 in
theorem allimp_spec (w : World) (a d il dl : Addr) (t0 t1 t2 t3 t4 t5 t : Tok) (r : Row) (ivs : List Value) (n : Nat) (news : Led) (h1 : (a, instObj 166 d) ∈ news) (h2 : (d, modO w t0 t1 t2 t3 t4 t5 r.1 t il dl) ∈ news) (h3 : (il, listO ivs n) ∈ news) (h4 : Each (ImpIn w news) ivs r.2) (hsz : r.2.length ≤ 1000) :
    CallSpec w 200 [.ref a] 3 HOk news (AllP w r ivs news) := by
  refine CallSpec.of ?_
  intro p loose mean mg mb hh dp un gd env outer A₀ base h₀ L m hpZ gsZ drZ tkZ osZ Q E B F X N T hf hk hH hdp hun hret
  (try k_fold)
  refine wpAny_call ?_
  refine' code_def ?k1 ?k2 ?k3 ?k4 ?k5 ?kA ?kF ?kK ?k6 ?k7 ?k8 ?k9 ?kB ?_ ?c2 ?c3 ?c4 ?c5
  case kA => exact rfl
  case kF => assumption
  case kK => assumption
  case k1 => k_asm
  case k2 => k_asm
  case k3 => k_asm
  case k4 => k_asm
  case k5 => k_asm
  case k6 => k_is
  case k7 => k_is
  case k8 => walk_at "my_room"
  case k9 => exact BindsTo.of_eq rfl
  case c5 => decide
  case kB => exact locs rfl
  case c2 => exact rfl
  case c3 => exact rfl
  case c4 => exact rfl
  intro gB LF hF FG FF NF BF XF TF
  dsimp only
  k_fold
  refine letX ?_
  intro Mz ez Az
  refine letF FF ?_
  clear FF
  intro mF FF
  have hHg := HOk.keeps hH (Fr.keep FG)
  k_steps
  refine CSrc.mk hHg (by assumption) NF h3 (line_small (by rw [h4.1]; omega)) (fun i ys nw => Grown news nw ∧ Each (fun v x => ∃ t, v = Value.str x t) ys (r.2.take i)) ⟨Grown.refl, .nil⟩ (fun i ys nw z => z.1.1 _ h3) ?_ ?_
  · intro i v ys nw I oI C oC D m₂ h tk E' hv hI hC hx F1 N1 off ne
    (try k_fold)
    refine gG ?_
    intro Pz kz
    obtain ⟨x, hx', a, d, _, _, _, _, _, _, t, rfl, ha, hd⟩ := h4.2 i v hv
    refine kz ?_
    clear kz
    have ha' := hI.1.1 _ ha
    have hd' := hI.1.1 _ hd
    k_steps
    exact LCg.CompEnd.intro (by assumption) (by assumption) nw (fun _ h => h) off trivial ⟨hI.1, hI.2.step hx' ⟨_, rfl⟩⟩
  · intro g ys nw hI
    unfold LCg.FinA
    intro D h tk F1 N1 o1
    rw [List.take_of_length_le (by rw [h4.1]; exact Nat.le_refl _)] at hI
    have hs := hI.2.strs
    have a1 := hI.1.1 _ h1
    have a2 := hI.1.1 _ h2
    have a3 := hI.1.1 _ h3
    have hil := h4.1
    have hgD : Grown news ((D, LCg.lst ys) :: nw) := Grown.cons (off1_ne o1) hI.1
    have pair : (([Str.ofString "Prelude", Str.ofString "Prim"] : List Str).any fun y => y == r.1) = decide (r.1 = "Prelude" ∨ r.1 = "Prim") := by
      rw [any_mem]; simp only [List.mem_cons, List.not_mem_nil, or_false]
    k_steps
    · rename (_ = true) => hc
      rw [pair, decide_eq_true_eq] at hc
      rename (News h₀ L _ _) => N9
      rename (Fr h₀ L _ _) => F9
      rename (_ ∧ _) => l9
      refine hret _ _ _ _ F9 N9 ⟨hgD.trans (Grown.cons (allLt_ne l9) Grown.refl), il, ivs, n, rfl, .tail _ (.tail _ a3), .inl ⟨rfl, ?_⟩⟩
      rw [needs, if_pos (hc.elim .inl fun q => .inr (.inl q))]
    · rename (_ ∈ r.2) => hc
      rename (News h₀ L _ _) => N9
      rename (Fr h₀ L _ _) => F9
      rename (_ ∧ _) => l9
      refine hret _ _ _ _ F9 N9 ⟨hgD.trans (Grown.cons (allLt_ne l9) Grown.refl), il, ivs, n, rfl, .tail _ (.tail _ a3), .inl ⟨rfl, ?_⟩⟩
      rw [needs, if_pos (.inr (.inr hc))]
    · rename (¬ _ ∈ r.2) => hc
      rename (_ = false) => hd
      rw [pair, decide_eq_false_iff_not] at hd
      refine Halt.go ?_
      rename (ImpP ..) => hP
      refine gG ?_
      intro Pz kz
      obtain ⟨xa, xd, s0, s1, s2, s3, s4, s5, rfl, m1, m2, rfl⟩ := hP
      refine kz ?_
      clear kz
      k_steps
      rename (News h₀ L _ _) => N9
      rename (Fr h₀ L _ _) => F9
      have hxa := ne_cons (o := impO w s0 s1 s2 s3 s4 s5 (Str.ofString "Prelude") 456) (Nat.ne_of_lt m2) (fun p hp => Nat.ne_of_lt (Nat.lt_trans (m1 p hp) m2))
      have hxd := lt_ne m1
      refine hret _ _ _ _ F9 N9 ⟨by walk_at "my_grown", _, _, _, rfl, .head _, .inr ⟨.ref xa, rfl, ?_, xa, xd, s0, s1, s2, s3, s4, s5, 456, rfl, by k_mem, by k_mem⟩⟩
      rw [needs, if_neg (fun q => q.elim (fun q => hd (.inl q)) fun q => q.elim (fun q => hd (.inr q)) hc)]
end
section
set_option maxRecDepth 100000
abbrev excBm : List Value := [.ref 32, .type "Exception", .type "BaseException", .type "object"]
/-- the class ScopeError, as the heap has it -/
def Cls45 (h : Heap) : Prop := ∃ nm q N bs sn sub ab col dd k0 k1 k2 k3 k5, h.get? 45 = some (excClassObj nm q 45 N bs excBm true sn sub ab col dd k0 k1 k2 k3 k5 "Exception.__new__")
theorem cls45 {P : Params} {h : Heap} (X : (hd.heap_39 P).In h) : Cls45 h := by
  have : ∃ nm q N bs sn sub ab col dd k0 k1 k2 k3 k5, (hd.heap_39 P).lookup 45 = some (excClassObj nm q 45 N bs excBm true sn sub ab col dd k0 k1 k2 k3 k5 "Exception.__new__") := ⟨_, _, _, _, _, _, _, _, _, _, _, _, _, _, rfl⟩
  obtain ⟨nm, q, N, bs, sn, sub, ab, col, dd, k0, k1, k2, k3, k5, e⟩ := this
  exact ⟨nm, q, N, bs, sn, sub, ab, col, dd, k0, k1, k2, k3, k5, X _ _ e⟩
abbrev excO (d : Option Addr) (t : Addr) : Obj := { cls := .ref 45, dict := d, data := .fields #[.ref t, .none, .none, .none, .bool false, .none] }
section
variable {w : World} {A : Around} {E : Value → Shared → Prop} {h : Heap} {g : Array GenState} {d : Drawn} {t : Nat} {os : OsState}
variable {nm q : Str} {C N : Addr} {bs bm : List Value} {hdct : Bool} {sn : List Str} {sub : List Value} {ab : Bool} {col : Option Bool} {dd : Option Addr} {k0 k1 k2 k3 k5 : Option Value} {newId : String}
theorem check_newX {M : Model} (F : ExcBaseFacts "Exception" newId initId bmB) (hB : bm.contains (.type "Exception") = true) {rest : List Value} {Q : Unit → Shared → Prop} (hC : h.get? C = some (excClassObj nm q C N bs bm hdct sn sub ab col dd k0 k1 k2 k3 k5 newId))
    (hq : Q () ⟨h, g, d, t, os⟩) : wpAny M A (checkBuiltinCall newId ⟨.ref C :: rest, []⟩) Q E ⟨h, g, d, t, os⟩ := by
  have hcont : (Value.ref C :: bm).contains (.type "Exception") = true := by rw [List.contains_cons, hB, Bool.or_true]
  have hstar := F.noStar
  simp only [checkBuiltinCall, F.newKind, F.newSplit, F.newRow]
  repeat (first | refine wpAny_loadPart_at hC ?_ | (refine wpAny_isSubtype_exc hC ?_; rw [hcont]) | refine wpAny_staticBase_exc hC ?_ | refine wpAny_madeBy_exc hC ?_ | simp only [bne_self_eq_false, Bool.false_eq_true, if_false] | wp_step)
  exact hq
theorem newX (F : ExcBaseFacts "Exception" newId initId bmB) (hB : bm.contains (.type "Exception") = true) (hA : bm.contains (.type "AttributeError") = false) (hN : bm.contains (.type "NameError") = false) {rest : List Value} {R : Result → Shared → Prop} (hC : h.get? C = some (excClassObj nm q C N bs bm hdct sn sub ab col dd k0 k1 k2 k3 k5 newId))
    (hq : R (.ok (.ret (.ref (h.objs.size + 1)))) ⟨(h.push { cls := .type "tuple", data := .seq rest.toArray }).push
      { cls := .ref C, data := .fields #[.ref h.objs.size, .none, .none, .none, .bool false, .none] }, g, d, t, os⟩) (hrest : rest.length ≤ sizeLine) :
    codeAny (model prg w) A (.builtin newId ⟨.ref C :: rest, []⟩) R ⟨h, g, d, t, os⟩ := by
  have hends := F.ends
  have hcB : (Value.ref C :: bm).contains (.type "Exception") = true := by rw [List.contains_cons, hB, Bool.or_true]
  have hcA : (Value.ref C :: bm).contains (.type "AttributeError") = false := by rw [List.contains_cons, hA]; rfl
  have hcN : (Value.ref C :: bm).contains (.type "NameError") = false := by rw [List.contains_cons, hN]; rfl
  refine codeAny_builtinAt F.entry ?_
  unfold Builtin.«BaseException.__new__»
  refine PySem.wpAt_bind ?_
  show PySem.wpAt _ _ _ (stack >>= _) _ _ _
  refine PySem.wpAt_bind (PySem.wpAt_stack fun p below => PySem.wpAt_of_wpAny ?_)
  wp_walk
  refine PySem.wpAt_of_wpAny ?_
  rw [F.owner]
  repeat (first | with_reducible refine wpAny_madeHere_exc F.canon hC ?_ | with_reducible refine wpAny_loadPart_at hC ?_ | (with_reducible refine wpAny_isSubtype_exc hC ?_; first | rw [hcB] | rw [hcA] | rw [hcN]) | wp_step)
  show R _ _
  rw [Heap.size_push]
  exact hq
end
/-- ScopeError(..): the new exception, then its __init__ -/
theorem make45 {w : World} {A : Around} {E : Value → Shared → Prop} {s : Shared} {h₀ : Heap} {L : Addr} {m : Str → Option Value} {news : Led} {rest : List Value} {Q : Value → Shared → Prop} (F : Fr h₀ L s.heap m) (X₀ : (hd.heap_39 w.params).In h₀) (N : News h₀ L s.heap news)
    (hi : findIn (hd.heap_39 w.params) (.ref 45) "__init__" = some (some (.ref 29))) (hf : typeIn (hd.heap_39 w.params) (.ref 29) = some (.type "function")) (hrest : rest.length ≤ sizeLine)
    (hq : ∀ e t h', Fr h₀ L h' m → News h₀ L h' ((e, excO none t) :: (t, tupO rest) :: news) → (∀ p ∈ news, p.1 < t) → @LT.lt Nat _ t e →
      wpAny (model prg w) (A.under (.builtin "type.__call__" ⟨.ref 45 :: rest, []⟩)) (call (.ref 29) (.ref e :: rest)) (fun r s' => r = .none ∧ Q (.ref e) s') E { s with heap := h' }) :
    wpAny (model prg w) A (call (.ref 45) rest) Q E s := by
  have X := X₀.keeps F.keep
  obtain ⟨nm, q, NN, bs, sn, sub, ab, col, dd, k0, k1, k2, k3, k5, hC⟩ := cls45 X
  obtain ⟨h, g, d, tk, os⟩ := s
  have FE := PySem.F.excBase_Exception
  have f1 := tc_lookup
  have f2 := tc_bind (.ref 45)
  have hT : (⟨h, g, d, tk, os⟩ : Shared).TypeIs (.ref 45) "type" := ⟨_, hC, rfl⟩
  refine wpAny_call (codeAny_of_tree ?_)
  show wpAny _ _ (callAny (.ref 45) _) _ _ _
  repeat (any_goals (first | assumption | with_reducible refine wpAny_loadPart_at hC ?_ | wp_step))
  refine ⟨rfl, ?_⟩
  refine codeAny_call_builtin_at (Code.quiet_builtin _ (by decide +kernel)) entry_typeCall (wpAny_check_type_call_sub hC ?_)
  repeat (first | with_reducible refine wpAny_loadPart_at hC ?_ | with_reducible refine wpAny_madeBy_exc hC ?_ | wp_step)
  refine codeAny_call_builtin_code (Code.quiet_builtin _ FE.quiet) (check_newX FE (by decide) hC ?_)
  refine newX FE (by decide) (by decide) (by decide) hC ?_ hrest
  show wpAny _ _ _ _ _ _
  have k : ∀ b o, h.get? b = some o → ((h.push { cls := .type "tuple", data := .seq rest.toArray }).push (excO none h.objs.size)).get? b = some o := fun b o e => Heap.get?_push_of_some _ (Heap.get?_push_of_some _ e)
  have hC₁ := k _ _ hC
  have hget : ((h.push { cls := .type "tuple", data := .seq rest.toArray }).push (excO none h.objs.size)).get? (h.objs.size + 1) = some { cls := .ref 45, data := .fields #[.ref h.objs.size, .none, .none, .none, .bool false, .none] } := by heap_get
  have hcC : (Value.ref 45 :: excBm).contains (.ref 45) = true := by simp
  have X₁ := X.keeps k
  unfold isInstance
  repeat (first | with_reducible refine wpAny_loadPart_at hget ?_ | (show wpAny _ _ (isSubtype (.ref 45) (.ref 45)) _ _ _; refine wpAny_isSubtype_exc hC₁ ?_; rw [hcC]) | wp_step)
  show wpAny _ _ (typeLookup (.ref 45) _) _ _ _
  refine (looks_findIn X₁ hi).here ?_
  refine wpAny_holding (wpAny_bind ((bind_fn X₁ _ hf).here ?_))
  have N' := (N.push F { cls := .type "tuple", data := .seq rest.toArray }).push (F.push _) (excO none h.objs.size)
  rw [Heap.size_push] at N'
  refine wpAny_bind (wpAny_mono (hq (h.objs.size + 1) h.objs.size _ ((F.push _).push _) N' (fun p hp => Heap.lt_size (N p hp).1) (Nat.lt_succ_self _)) (fun r s' hr => ?_) fun _ _ x => x)
  obtain ⟨rfl, hQ⟩ := hr
  wp_walk
  exact hQ
end
section
open Builtin Builtin.ObjectAttr
section
variable {w : World} {A : Around} {E : Value → Shared → Prop} {s : Shared} {h₀ : Heap} {L : Addr} {m : Str → Option Value} {news : Led}
theorem storeD {od od' : Obj} {dx : Addr} {name : Str} {tk : Tok} {v : Value} {pre post : Led} {es : List DictEntry} {n : Nat} {Q : PySem.Fin → Shared → Prop} (F : Fr h₀ L s.heap m) (N : News h₀ L s.heap (pre ++ (dx, od) :: post))
    (hl : (lookIn name od).isSome = true) (h1 : ∀ p ∈ pre, p.1 ≠ dx) (h2 : ∀ p ∈ post, p.1 ≠ dx)
    (e : Obj.putName name (PyData.keyHash w.params name) (.str name s.toks) v od = od') (e' : od'.data = .dict es.toArray n) (hz : es.length ≤ 1000)
    (h : ∀ h', Fr h₀ L h' m → News h₀ L h' (pre ++ (dx, od') :: post) → Q (.done (.ret .none)) { s with heap := h', toks := s.toks + 1 }) :
    wpAny (model prg w) A (storeInDict dx (.str name tk) name v) Q E s := by
  obtain ⟨U1, U2⟩ := news_upd (f := Obj.putName name (PyData.keyHash w.params name) (.str name s.toks) v) F N h1 h2 e (by obtain ⟨_, _, dd, _⟩ := od'; cases e'; rfl)
  have D := (N (dx, od) (by simp)).1
  have D' := (U2 (dx, od') (by simp)).1
  refine wpAny_bind (wpAny_pure (wpAny_bind ?_))
  unfold nsSet
  refine wpAny_bind (wpAny_bind (wpAny_askSetting (wpAny_pure (wpAny_bind (wpAny_mkText (wpAny_bind (wpAny_loadPart D ?_)))))))
  unfold lookIn at hl
  split at hl
  · rename_i es₀ n₀ q
    rw [q]
    dsimp only
    have c : (!es₀.any (·.key.isStr name) && es₀.any (·.refKey)) = false := by
      rw [← Array.any_toList, ← Array.any_toList]
      split at hl
      · rename_i en he
        rw [List.any_eq_true.mpr ⟨en, List.mem_of_find?_eq_some he, List.find?_some he⟩]; rfl
      · split at hl
        · cases hl
        · rename_i z; rw [Bool.not_eq_true] at z; rw [z, Bool.and_false]
    rw [aRefKeyMayBeTheName_at, c]
    refine wpAny_updatePart D ?_
    refine wpAny_bind (wpAny_lookBehind D' (by rw [e']; exact pastItsLine_dict (by rw [List.size_toArray, sizeLine_eq]; omega)) ?_)
    exact wpAny_pure (h _ U1 U2)
  · cases hl
/-- object.__setattr__ on a ScopeError -/
theorem osa45 {x : Addr} {ox : Obj} {od : Option Obj} {name : Str} {tk : Tok} {v : Value} {cd : ClassData} {R : Result → Shared → Prop} (X : (hd.heap_39 w.params).In s.heap) (I : InstAt s.heap x ox 45 od) (hc : clsIn (hd.heap_39 w.params) 45 = some cd) (hm : cd.mro = .ref 45 :: excBm) (ht : takerIn (hd.heap_39 w.params) 45 name = some none)
    (h : ∀ b, wpAny (model prg w) A.in1 (storeInOwnDict (.ref x) (.ref 45) (.str name tk) name v b)
      (fun fin s' => match fin with | .done f => R (.ok f) s' | .again c' => c'.quiet = true ∧ codeAny (model prg w) A c' R s') (fun e s' => R (.error e) s') s) :
    codeAny (model prg w) A (.call (.builtin "object.__setattr__") ⟨[.ref x, .str name tk, v], []⟩) R s := by
  have SF := PySem.F.store_Exception
  have ne : cd.mro.isEmpty = false := by rw [hm]; rfl
  have sub : Looks (model prg w) s.heap (isInstance (.ref x) (.type "object")) true := I.type.andThen (looks_mroIn X (by unfold mroIn; rw [hc, Option.bind_some, if_neg (by rw [ne]; decide), hm]; rfl))
  refine codeAny_call_builtin SF.slot.plain SF.entry (@check_slot (model prg w) _ _ s "object.__setattr__" "object" "__setattr__" (.ref x) [.str name tk, v] [] _ SF.kind SF.split sub (SF.args (.ref x) (.str name tk) v) ?_)
  obtain ⟨attr, ha, hr⟩ := Option.bind_eq_some_iff.mp ht
  have hmr : Looks (model prg w) s.heap (mroOf (.ref 45)) cd.mro := (looks_clsIn X hc).andThen .now
  have L3 : Looks (model prg w) s.heap (storeTaker? attr) none := by
    cases attr with
    | none => exact .now
    | some a =>
      obtain ⟨b, hb, hbr⟩ := Option.map_eq_some_iff.mp hr
      refine (looks_takesIn X hb).andThen ?_
      cases b
      · exact .now
      · cases hbr
  rw [osa_eq, refuse_eq]
  refine wpAny_bind (wpAny_bind (I.type.here (wpAny_bind (hmr.here ?_))))
  rw [hm, refuseLoop_ref, refuseLoop_ref, SF.passes]
  refine wpAny_pure (wpAny_bind (I.type.here (wpAny_bind ((looks_findIn X ha).here (wpAny_bind (L3.here ?_))))))
  exact h _
theorem set45 {x : Addr} {ox : Obj} {od : Option Obj} {name : Str} {v : Value} {Q : Unit → Shared → Prop} (X : (hd.heap_39 w.params).In s.heap) (I : InstAt s.heap x ox 45 od)
    (hs : findIn (hd.heap_39 w.params) (.ref 45) "__setattr__" = some (some (.builtin "object.__setattr__")))
    (h : codeAny (model prg w) A (.call (.builtin "object.__setattr__") ⟨[.ref x, .str name s.toks, v], []⟩) (fun r s' => match r with | .ok (.ret _) => Q () s' | .ok _ => False | .error e => E e s') { s with toks := s.toks + 1 }) :
    wpAny (model prg w) A (setAttr (.ref x) name v) Q E s := set_plain X I hs h
end
end
section
section
local macro_rules | `(tactic| k_mem) => `(tactic| assumption)
local macro_rules | `(tactic| walk_at "my_skip") => `(tactic| first | exact sub_refl | (refine sub_skip ?_; walk_at "my_skip"))
local macro_rules | `(tactic| walk_at "my_sub") => `(tactic| (first | walk_at "my_skip" | exact sub_nil | (refine sub_cons (by k_mem) ?_; walk_at "my_sub")))
open Builtin Builtin.ObjectAttr
theorem cd45 (P : Params) : ∃ cd, clsIn (hd.heap_39 P) 45 = some cd ∧ cd.mro = .ref 45 :: excBm ∧ cd.hasDict = true := ⟨_, rfl, rfl, rfl⟩
section
variable {w : World} {A : Around} {E : Value → Shared → Prop} {s : Shared} {h₀ : Heap} {L : Addr} {m : Str → Option Value} {news : Led}
theorem setNew {e t : Addr} {name : Str} {v : Value} {rest : Led} {Q : Unit → Shared → Prop} (F : Fr h₀ L s.heap m) (X₀ : (hd.heap_39 w.params).In h₀) (N : News h₀ L s.heap ((e, excO none t) :: rest)) (he : ∀ p ∈ rest, p.1 ≠ e)
    (hs : findIn (hd.heap_39 w.params) (.ref 45) "__setattr__" = some (some (.builtin "object.__setattr__"))) (ht : takerIn (hd.heap_39 w.params) 45 name = some none)
    (h : ∀ d h' tk, Fr h₀ L h' m → News h₀ L h' ((e, excO (some d) t) :: (d, dictOf [⟨PyData.keyHash w.params name, .str name tk, v⟩] 1) :: rest) → (∀ p ∈ rest, p.1 ≠ d) → e ≠ d → Q () { s with heap := h', toks := s.toks + 1 + 1 }) :
    wpAny (model prg w) A (setAttr (.ref e) name v) Q E s := by
  have X := X₀.keeps F.keep
  obtain ⟨cd, hc, hm, hd'⟩ := cd45 w.params
  have hx := (N _ (.head _)).1
  have I : InstAt s.heap e (excO none t) 45 none := ⟨hx, rfl, rfl, trivial⟩
  refine set45 X I hs ?_
  refine osa45 (s := { s with toks := s.toks + 1 }) X I hc hm ht fun b => ?_
  obtain ⟨hp, g, dr, tk, os⟩ := s
  have X' : (hd.heap_39 w.params).In hp := X
  refine wpAny_bind (wpAny_pure (wpAny_bind ?_))
  refine wpAny_bind (wpAny_loadPart hx (wpAny_bind ((looks_clsIn X' hc).here ?_)))
  rw [hd']
  show wpAny _ _ (do let d ← alloc { cls := .type "dict", data := .dict #[] }; update e fun o => { o with dict := some d }; dictMade (.ref 45) e d) _ _ _
  refine wpAny_bind (wpAny_alloc' ?_)
  have hx₁ : (hp.push { cls := .type "dict", data := .dict #[] }).get? e = some (excO none t) := Heap.get?_push_of_some _ hx
  refine wpAny_bind (wpAny_update' hx₁ ?_)
  refine wpAny_pure ?_
  dsimp only
  have hes : e ≠ hp.objs.size := Nat.ne_of_lt (Heap.lt_size hx)
  have N1 : News h₀ L (hp.push emptyDict) ([(hp.objs.size, emptyDict)] ++ (e, excO none t) :: rest) := N.push F emptyDict
  obtain ⟨F2, N2⟩ := news_upd (f := fun o => { cls := o.cls, dict := some hp.objs.size, data := o.data, slots := o.slots }) (F.push emptyDict) N1 (fun p q => by rw [List.mem_singleton.mp q]; exact Ne.symm hes) he rfl rfl
  have N3 : News h₀ L ((hp.push emptyDict).update e fun o => { cls := o.cls, dict := some hp.objs.size, data := o.data, slots := o.slots }) ([(e, excO (some hp.objs.size) t)] ++ (hp.objs.size, emptyDict) :: rest) := News.sub N2 fun p hp => by
    revert p hp; (try simp only [List.cons_append, List.nil_append]); walk_at "my_sub"
  have hlt : ∀ p ∈ rest, p.1 < hp.objs.size := fun p q => Heap.lt_size (N p (.tail _ q)).1
  refine storeD F2 N3 rfl (fun p q => by rw [List.mem_singleton.mp q]; exact hes) (fun p q => Nat.ne_of_lt (hlt p q)) (putName_dict _ _ _ _ [] 0) (n := 1) (es := [⟨PyData.keyHash w.params name, .str name (tk + 1), v⟩]) rfl (by show (1 : Nat) ≤ 1000; decide) fun h' F' N' => ?_
  exact h _ h' (tk + 1) F' N' (fun p q => Nat.ne_of_lt (hlt p q)) hes
theorem putL_len (name : Str) (hsh : Int) (key v : Value) : ∀ es : List DictEntry, (putL name hsh key v es).length ≤ es.length + 1
  | [] => Nat.le_refl _
  | e :: r => by
    unfold putL
    split
    · simp
    · simp only [List.length_cons]; have := putL_len name hsh key v r; omega
theorem setOld {e t d : Addr} {name : Str} {v : Value} {rest : Led} {es : List DictEntry} {n : Nat} {Q : Unit → Shared → Prop} (F : Fr h₀ L s.heap m) (X₀ : (hd.heap_39 w.params).In h₀) (N : News h₀ L s.heap ((e, excO (some d) t) :: (d, dictOf es n) :: rest)) (hde : e ≠ d) (he : ∀ p ∈ rest, p.1 ≠ d)
    (hs : findIn (hd.heap_39 w.params) (.ref 45) "__setattr__" = some (some (.builtin "object.__setattr__"))) (ht : takerIn (hd.heap_39 w.params) 45 name = some none)
    (hl : (lookIn name (dictOf es n)).isSome = true) (hz : es.length ≤ 900)
    (h : ∀ o h', Fr h₀ L h' m → News h₀ L h' ((e, excO (some d) t) :: (d, o) :: rest) → Q () { s with heap := h', toks := s.toks + 1 + 1 }) :
    wpAny (model prg w) A (setAttr (.ref e) name v) Q E s := by
  have X := X₀.keeps F.keep
  obtain ⟨cd, hc, hm, hd'⟩ := cd45 w.params
  have hx := (N _ (.head _)).1
  have hdx := (N _ (.tail _ (.head _))).1
  have I : InstAt s.heap e (excO (some d) t) 45 (some (dictOf es n)) := ⟨hx, rfl, rfl, hdx⟩
  refine set45 X I hs ?_
  refine osa45 (s := { s with toks := s.toks + 1 }) X I hc hm ht fun b => ?_
  obtain ⟨hp', g, dr, tk, os⟩ := s
  have X' : (hd.heap_39 w.params).In hp' := X
  refine wpAny_bind (wpAny_pure (wpAny_bind ?_))
  refine wpAny_bind (wpAny_loadPart hx (wpAny_bind ((looks_clsIn X' hc).here ?_)))
  rw [hd']
  refine wpAny_pure (a := some d) ?_
  refine storeD (pre := [(e, excO (some d) t)]) (post := rest) F N hl (fun p q => by rw [List.mem_singleton.mp q]; exact hde) he (putName_dict ..) rfl (Nat.le_trans (putL_len ..) (by omega)) fun h' F' N' => ?_
  exact h _ h' F' N'
/-- Exception.__init__(e, v) -/
theorem initX {e t : Addr} {v : Value} {d : Option Addr} {rest : Led} {Q : Value → Shared → Prop} (F : Fr h₀ L s.heap m) (X₀ : (hd.heap_39 w.params).In h₀) (N : News h₀ L s.heap ((e, excO d t) :: rest)) (he : ∀ p ∈ rest, p.1 ≠ e)
    (h : ∀ t' h', Fr h₀ L h' m → News h₀ L h' ((e, excO d t') :: rest) → Q .none { s with heap := h' }) :
    wpAny (model prg w) A (call (.builtin "Exception.__init__") [.ref e, v]) Q E s := by
  have X := X₀.keeps F.keep
  have FE := PySem.F.excBase_Exception
  obtain ⟨nm, q, NN, bs, sn, sub, ab, col, dd, k0, k1, k2, k3, k5, hC⟩ := cls45 X
  have hx := (N _ (.head _)).1
  obtain ⟨hp, g, dr, tk, os⟩ := s
  refine wpAny_call (codeAny_call_builtin FE.init.plain FE.initEntry ?_)
  have hcB : (Value.ref 45 :: excBm).contains (.type "Exception") = true := by decide
  have hshort := FE.noStar
  simp only [checkBuiltinCall, FE.initKind, FE.initSplit, FE.initRow]
  repeat (first | with_reducible refine wpAny_loadPart_at hx ?_ | with_reducible refine wpAny_loadPart_at hC ?_ | (show wpAny _ _ (isSubtype (.ref 45) (.type "Exception")) _ _ _; refine wpAny_isSubtype_exc hC ?_; rw [hcB]) | wp_step)
  have hes : e ≠ hp.objs.size := Nat.ne_of_lt (Heap.lt_size hx)
  have N1 : News h₀ L (hp.push (tupO [v])) ([(hp.objs.size, tupO [v])] ++ (e, excO d t) :: rest) := N.push F (tupO [v])
  obtain ⟨F2, N2⟩ := news_upd (f := Obj.mapFields fun x => x.setIfInBounds 0 (Value.ref hp.objs.size)) (o' := excO d hp.objs.size) (F.push (tupO [v])) N1 (fun p q => by rw [List.mem_singleton.mp q]; exact Ne.symm hes) he rfl rfl
  refine h hp.objs.size _ F2 (News.sub N2 fun p hp => ?_)
  revert p hp; (try simp only [List.cons_append, List.nil_append]); walk_at "my_sub"
end
end
end
section
local macro_rules | `(tactic| walk_at "getMethod type:Exception") => `(tactic| (k_here; (with_reducible show wpAny _ _ (getMethod (Value.type "Exception") _ _) _ _ _); k_dflt (refine method_type (v := .builtin "Exception.__init__") (by k_asm) (by k_asm) (by kernel_rfl) (by decide +kernel) (by rfl) (by decide +kernel) ?_)))
local macro_rules | `(tactic| walk_at "getMethod type") => `(tactic| (k_here; (with_reducible show wpAny _ _ (getMethod (Value.type "Exception") _ _) _ _ _); k_dflt (refine method_type (v := .builtin "Exception.__init__") (by k_asm) (by k_asm) (by kernel_rfl) (by decide +kernel) (by rfl) (by decide +kernel) ?_)))
local macro_rules | `(tactic| walk_at "call builtin:Exception.__init__") => `(tactic| (k_here; k_dflt (refine initX (by k_asm) (by k_asm) (by k_asm) (by assumption) ?_); intro t' h' F' N'))
local macro_rules | `(tactic| walk_at "setAttr ref") => `(tactic| (k_here; k_dflt (first
  | (refine setNew (by k_asm) (by k_asm) (by k_asm) (by assumption) (by k_is) (by k_is) ?_; intro d' h' tk' F' N' l1 l2)
  | (refine setOld (by k_asm) (by k_asm) (by k_asm) (by assumption) (by assumption) (by k_is) (by k_is) (by kernel_rfl) (by show (1 : Nat) ≤ 900; decide) ?_; intro o' h' F' N'))))
set_option maxHeartbeats 8000000 in
theorem lazy_spec (w : World) (e t : Addr) (msg : Str) (tm : Tok) (news : Led) (hn : ∀ p ∈ news, p.1 ≠ e) :
    CallSpec w 29 [.ref e, .str msg tm, .none] 2 noneH ((e, excO none t) :: news) (fun v news' => v = .none ∧ ∃ d t', news' = (e, excO (some d) t') :: news) := by
  refine CallSpec.of ?_
  intro p loose mean mg mb hh dp un gd env outer A₀ base h₀ L m hpZ gsZ drZ tkZ osZ Q E B F X N T hf hk hH hdp hun hret
  (try k_fold)
  refine wpAny_call ?_
  k_dflt walk_at "my_enter"
  k_steps
  rename (News h₀ L _ _) => N9
  rename (Fr h₀ L _ _) => F9
  have pack : ∀ {d t' : Addr} {o : Obj} {h : Heap}, News h₀ L h ((e, excO (some d) t') :: (d, o) :: news) → ∃ d t', News h₀ L h ((e, excO (some d) t') :: news) := fun N => ⟨_, _, News.sub N fun p hp => by
    rcases List.mem_cons.mp hp with h | h
    · rw [h]; exact .head _
    · exact .tail _ (.tail _ h)⟩
  obtain ⟨d, t', NP⟩ := pack N9
  exact hret _ _ _ _ F9 NP ⟨rfl, d, t', rfl⟩
end
section
/-- `raise x`, where x makes a ScopeError -/
theorem raise45 {w : World} {A : Around} {E : Value → Shared → Prop} {s : Shared} {env : Env} {x : PySem.Expr} {pos : Pos} {Q : Flow → Shared → Prop} (hh : A.handled = none)
    (h : wpAny (model prg w) A (eval x env) (fun v s₁ => ∃ e d t, v = .ref e ∧ (hd.heap_39 w.params).In s₁.heap ∧ s₁.heap.get? e = some (excO d t) ∧ E (.ref e) s₁) E s) :
    wpAny (model prg w) A (exec (.Raise (some x) none pos) env) Q E s := by
  rw [arm_exec_Raise]
  refine wpAny_bind (wpAny_standAt ?_)
  unfold raiseStmt
  refine wpAny_bind (wpAny_bind (wpAny_mono h (fun v s₁ h₁ => wpAny_bind (wpAny_standAt (wpAny_pure ?_))) fun _ _ x => x))
  obtain ⟨e, d, t, rfl, X, he, hE⟩ := h₁
  obtain ⟨nm, q, NN, bs, sn, sub, ab, col, dd, k0, k1, k2, k3, k5, hC⟩ := cls45 X
  obtain ⟨hp, g, dr, tk, os⟩ := s₁
  have hcB : (Value.ref 45 :: excBm).contains (.type "BaseException") = true := by decide
  repeat (first | with_reducible refine wpAny_loadPart_at he ?_ | with_reducible refine wpAny_loadPart_at hC ?_ | (show wpAny _ _ (isSubtype (.ref 45) (.type "BaseException")) _ _ _; refine wpAny_isSubtype_exc hC ?_; rw [hcB]) | wp_step)
  exact wpAny_raiseNew_none hh hE
/-- a ScopeError under way, with no context -/
structure Flies (base : Heap) (l : List Env) (e : Addr) (fl : Value) (h : Heap) : Prop where
  stays : base.StaysIn h
  new : base.get? e = none
  frames : h.FunFrames base l
  at_ : ∃ oe vs T oT ts, h.get? e = some oe ∧ oe.cls = .ref 45 ∧ oe.data = .fields vs ∧ vs[1]? = some (.ref T) ∧ vs[2]? = some .none ∧ base.get? T = none ∧ T ≠ e ∧ h.get? T = some oT ∧ oT.data = .fields ts ∧ ts[3]? = some fl
section
variable {M : Model} {A : Around} {E : Value → Shared → Prop} {s : Shared} {base : Heap} {env : Env} {outer : List Env} {L e : Addr} {Q : Unit → Shared → Prop}
theorem newEntryX {oe : Obj} {vs : Array Value} {head : Value} {hadNext : Bool}
    (hfr : A.frames = some (env :: outer)) (hl : s.heap.FunFrames base (env :: outer)) (hf : env.frame = some L)
    (he : s.heap.get? e = some oe) (hkb : base.StaysIn s.heap) (hen : base.get? e = none) (hcls : oe.cls = .ref 45) (hd : oe.data = .fields vs) (hsz : 1 < vs.size) (h2 : vs[2]? = some .none)
    (h : ∀ h', Flies base (env :: outer) e (rawInt L) h' → s.heap.UpToSlots h' → Q () { s with heap := h' }) :
    wpAny M A (do let a ← frameOf env; let pl ← entryPlaceOf L hadNext; let b ← EntryCells.newEntry head a .none (rawInt L) .none pl; setField (.ref e) 1 b) Q E s := by
  have hene : e ∉ (env :: outer).filterMap (·.frame) := fun hm => by
    obtain ⟨_, o, ho, hnf⟩ := hl.mem hm
    rw [he] at ho; injection ho with ho; subst ho; exact hnf vs hd
  refine wpAny_bind (wpAny_frameOf_fun hfr hl hf fun h₁ hs₁ => ?_)
  refine wpAny_bind (wpAny_entryPlaceOf fun pl hpl => ?_)
  unfold EntryCells.newEntry newFields
  refine wpAny_bind (wpAny_newObj_type ?_ (hpl.sizeOk5 _ _ _ _ _))
  have he₁ : h₁.get? e = some oe := (hs₁.2.1 e hene).trans he
  generalize htb : ([head, Value.ref L, Value.none, rawInt L, Value.none] ++ (if pl.isEmpty then List.replicate 6 Value.none else pl)).toArray = tb
  have ht3 : tb[3]? = some (rawInt L) := by rw [← htb]; rcases hpl with rfl | ⟨_, _, _, _, _, _, _, rfl⟩ <;> simp
  have kb₁ : base.StaysIn h₁ := fun b o hbo => (hs₁.2.1 b fun hm => by rw [(hl.mem hm).1] at hbo; cases hbo).trans (hkb b o hbo)
  have he₂ := Heap.get?_push_of_some (h := h₁) { cls := .type "traceback", dict := none, data := .fields tb } he₁
  refine wpAny_setField he₂ hd hsz (h _ ?_ ?_)
  all_goals have hTe : h₁.objs.size ≠ e := Nat.ne_of_gt (Heap.lt_size he₁)
  all_goals have keep : ∀ b o, b ≠ e → h₁.get? b = some o → ((h₁.push { cls := .type "traceback", dict := none, data := .fields tb }).update e (Obj.mapFields (·.setIfInBounds 1 (Value.ref h₁.objs.size)))).get? b = some o := fun b o hbe hb => (Heap.get?_update_other _ _ (Ne.symm hbe)).trans (Heap.get?_push_of_some _ hb)
  all_goals have noRec : ∀ b o, s.heap.get? b = some o → (∀ vs, o.data ≠ .fields vs) → b ≠ e := fun b o hb hnf q => (by rw [q, he] at hb; injection hb with hb; subst hb; exact hnf vs hd)
  · have hd₃ := Obj.data_mapFields hd (·.setIfInBounds 1 (Value.ref h₁.objs.size))
    refine ⟨fun b o hbo => keep b o (fun q => by rw [q, hen] at hbo; cases hbo) (kb₁ b o hbo), hen, hl.of_keeps fun b o hb hnf => ?_, ?_⟩
    · obtain ⟨sl, hs⟩ := hs₁.2.2 b o hb
      exact ⟨_, keep b _ (noRec b o hb hnf) hs, rfl⟩
    · refine ⟨_, _, h₁.objs.size, _, _, Heap.get?_update_self _ he₂ (Obj.isFreed_of_fields hd₃), (Obj.cls_mapFields _ _).trans hcls, hd₃, by simp [hsz], by rw [Array.getElem?_setIfInBounds_ne (by decide)]; exact h2, kb₁.fresh, hTe, (Heap.get?_update_other _ _ (Ne.symm hTe)).trans (Heap.get?_push_size h₁ rfl), rfl, ht3⟩
  · intro b o hb hnf
    obtain ⟨sl, hs⟩ := hs₁.2.2 b o hb
    exact ⟨sl, keep b _ (noRec b o hb hnf) hs⟩
theorem flightX {l : List Env} {fl : Value} (hf : Flies base l e fl s.heap) (h : ∀ h', Flies base l e .none h' → s.heap.UpToSlots h' → Q () { s with heap := h' }) : wpAny M A (setFlight (.ref e) none) Q E s := by
  obtain ⟨f1, f2, f3, oe, vs, T, oT, ts, he, hc, hd, h1, h2, hnT, hTe, hT, hdT, h3⟩ := hf
  have other : ∀ b, b ≠ T → (s.heap.update T (Obj.mapFields (·.setIfInBounds 3 Value.none))).get? b = s.heap.get? b := fun b hb => Heap.get?_update_other _ _ (Ne.symm hb)
  have noRec : ∀ b o, s.heap.get? b = some o → (∀ vs, o.data ≠ .fields vs) → b ≠ T := fun b o hb hnf q => by
    rw [q, hT] at hb; injection hb with hb; subst hb; exact hnf ts hdT
  have hz := (Array.getElem?_eq_some_iff.mp h3).1
  unfold setFlight
  refine wpAny_bind (wpAny_field he hd h1 ?_)
  rw [if_pos (show (Value.ref T != Value.none) = true from by simp)]
  refine wpAny_setField hT hdT hz (h _ ⟨fun b o hbo => (other b fun q => by rw [q, hnT] at hbo; cases hbo).trans (f1 b o hbo), f2, f3.of_keeps fun b o hb hnf => ⟨o, (other b (noRec b o hb hnf)).trans hb, rfl⟩, ?_⟩ fun b o hb hnf => ⟨o.slots, (other b (noRec b o hb hnf)).trans hb⟩)
  exact ⟨oe, vs, T, _, _, (other e (Ne.symm hTe)).trans he, hc, hd, h1, h2, hnT, hTe, Heap.get?_update_self _ hT (Obj.isFreed_of_fields (Obj.data_mapFields hdT _)), Obj.data_mapFields hdT _, by simp [hz]⟩
theorem noteX (hfr : A.frames = some (env :: outer)) (hf : env.frame = some L) (x : Flies base (env :: outer) e .none s.heap)
    (h : ∀ h', Flies base (env :: outer) e (rawInt L) h' → s.heap.UpToSlots h' → Q () { s with heap := h' }) : wpAny M A (noteFrame (.ref e) env) Q E s := by
  obtain ⟨f1, f2, f3, oe, vs, T, oT, ts, he, hc, hd, h1, h2, hnT, hTe, hT, hdT, h3⟩ := x
  unfold noteFrame
  simp only [hf]
  refine wpAny_bind (wpAny_field he hd h1 ?_)
  rw [if_pos (show (Value.ref T != Value.none) = true from by simp)]
  refine wpAny_bind (wpAny_field hT hdT h3 ?_)
  rw [if_neg (show ¬ ((Value.none == rawInt L) = true) from by simp [rawInt])]
  refine wpAny_bind (wpAny_setField hT hdT (Array.getElem?_eq_some_iff.mp h3).1 ?_)
  have other : ∀ b, b ≠ T → (s.heap.update T (Obj.mapFields (·.setIfInBounds 3 Value.none))).get? b = s.heap.get? b := fun b hb => Heap.get?_update_other _ _ (Ne.symm hb)
  have noRec : ∀ b o, s.heap.get? b = some o → (∀ vs, o.data ≠ .fields vs) → b ≠ T := fun b o hb hnf q => by
    rw [q, hT] at hb; injection hb with hb; subst hb; exact hnf ts hdT
  exact newEntryX (s := { s with heap := s.heap.update T (Obj.mapFields (·.setIfInBounds 3 Value.none)) }) hfr (f3.of_keeps fun b o hb hnf => ⟨o, (other b (noRec b o hb hnf)).trans hb, rfl⟩) hf ((other e (Ne.symm hTe)).trans he)
    (fun b o hbo => (other b fun q => by rw [q, hnT] at hbo; cases hbo).trans (f1 b o hbo)) f2 hc hd (Array.getElem?_eq_some_iff.mp h1).1 h2 fun h' a b => h h' a fun p o hb hnf => b p o ((other p (noRec p o hb hnf)).trans hb) hnf
theorem leavingX {d : Option Addr} {t : Addr} (hfr : A.frames = some (env :: outer)) (hl : s.heap.FunFrames base (env :: outer)) (hf : env.frame = some L) (he : s.heap.get? e = some (excO d t)) (hkb : base.StaysIn s.heap) (hen : base.get? e = none)
    (h : ∀ h', Flies base outer e .none h' → s.heap.UpToSlots h' → Q () { s with heap := h' }) : wpAny M A (leaving env (.ref e)) Q E s := by
  unfold leaving noteFrame
  simp only [hf]
  refine wpAny_bind (wpAny_bind (wpAny_field he rfl (x := .none) rfl ?_))
  rw [if_neg (by decide)]
  refine newEntryX hfr hl hf he hkb hen rfl rfl (by show (1 : Nat) < 6; decide) rfl fun h' F1 U1 => ?_
  refine flightX (s := { s with heap := h' }) F1 fun h'' F2 U2 => h h'' ⟨F2.stays, F2.new, ?_, F2.at_⟩ (U1.trans U2)
  obtain ⟨_, _, k⟩ := F2.frames
  exact k
end
/-- a ScopeError that left a callee; the ledger of the caller as it was -/
def RaisedX (base : Heap) (l : List Env) (e : Addr) (news : Led) (h : Heap) : Prop := ∃ B, base.StaysIn B ∧ (∀ q ∈ news, B.get? q.1 = some q.2 ∧ base.get? q.1 = none) ∧ Flies B l e .none h
theorem leaveX {M : Model} {A : Around} {E : Value → Shared → Prop} {s' : Shared} {base g : Heap} {outer : List Env} {L a e t : Addr} {d : Option Addr} {m : Str → Option Value} {name : Str} {scope : Scope} {cd : Value} {Q : Unit → Shared → Prop} {news all : Led}
    (K : Below A base outer g) (F : Fr g L s'.heap m) (N : News g L s'.heap all) (he : (e, excO d t) ∈ all) (hsub : ∀ p ∈ news, p ∈ all ∧ p.1 ≠ e)
    (hQ : ∀ h', RaisedX base outer e news h' → g.UpToSlots h' → Q () { s' with heap := h' }) (hk : scope.kind = .function := by rfl) :
    wpAny M (A.deeper (envOf name scope L a cd)) (leaving (envOf name scope L a cd) (.ref e)) Q E s' := by
  have K' := K.push (name := name) (a := a) (cd := cd) F hk
  have hE := N _ he
  have hbe : base.get? e = none := fresh_of_stays K.stays hE.2.2
  have hin : ∀ env ∈ (envOf name scope L a cd :: outer), ∀ b, env.frame = some b → b ∈ e :: (envOf name scope L a cd :: outer).filterMap (·.frame) := fun env he b hb => .tail _ (List.mem_filterMap.mpr ⟨env, he, hb⟩)
  have st : base.StaysIn (hideAll s'.heap (e :: (envOf name scope L a cd :: outer).filterMap (·.frame))) := fun b o q => hideAll_get _ (K'.stays b o q) fun hm => by
    rcases List.mem_cons.mp hm with hm | hm
    · rw [hm, hbe] at q; cases q
    · rw [(K'.frames.mem hm).1] at q; cases q
  have hl : ∀ q ∈ news, (hideAll s'.heap (e :: (envOf name scope L a cd :: outer).filterMap (·.frame))).get? q.1 = some q.2 ∧ base.get? q.1 = none := fun q hq => by
    have hq' := hsub q hq
    refine ⟨hideAll_get _ (N q hq'.1).1 fun hm => ?_, fresh_of_stays K.stays (N q hq'.1).2.2⟩
    rcases List.mem_cons.mp hm with hm | hm
    · exact hq'.2 hm
    · obtain ⟨env, he, hf⟩ := List.mem_filterMap.mp hm
      rcases List.mem_cons.mp he with rfl | he
      · exact (N q hq'.1).2.1 (Option.some.inj hf).symm
      · obtain ⟨o, ho, _⟩ := (K.frames.mem (List.mem_filterMap.mpr ⟨env, he, hf⟩)).2
        rw [(N q hq'.1).2.2] at ho; cases ho
  exact leavingX K'.stack (funFrames_hide K'.frames hin) rfl hE.1 (fun b o q => of_hideAll _ q) (hideAll_none _ (.head _)) fun h' x1 x2 => hQ h' ⟨_, st, hl, x1⟩ ((Heap.UpToSlots.of_keeps F.keep).trans x2)
end
section
section
variable {w : World} {A₀ : Around} {E : Value → Shared → Prop} {s' : Shared} {h₀ h : Heap} {outer : List Env} {L a e t : Addr} {m : Str → Option Value} {name : Str} {scope : Scope} {cd : Value}
  {b₀ : Stmt} {suite : List Stmt} {pos np : Pos} {rest : List ExceptHandler} {Q : Flow → Shared → Prop} {news : Led} {p : Program} {loose : List Str} {mg mb : Str → Option Value} {x : Str}
/-- the handler `except ScopeError:` takes it -/
theorem caughtXC (K : Below A₀ h₀ outer h₀) (F : Fr h₀ L h m) (hsm : h.UpToSlots s'.heap) (R : RaisedX h₀ (envOfC name scope L a cd :: outer) e news s'.heap)
    (X : (hd.heap_39 w.params).In h₀) (T : TopRead p loose mg mb h₀) (ex : nsIn (hd.heap_39 w.params) mainGlobals x = some (some (.ref 45)))
    (k : ∀ h' oe vs, Fr h₀ L h' m → News h₀ L h' news → h₀.get? e = none → e ≠ L → (∀ q ∈ news, q.1 ≠ e) → h'.get? e = some oe → oe.data = .fields vs → vs[2]? = some .none →
      wpAny (model prg w) ((A₀.deeper (envOfC name scope L a cd)).mark (some (.ref e))) (execs (b₀ :: suite) (envOfC name scope L a cd)) Q E { s' with heap := h' })
    (hk : scope.kind = .function := by rfl) (hx : (envOfC name scope L a cd).kindOf x = some .globalImplicit := by rfl) (hd' : (x == ("__debug__" : Str)) = false := by decide)
    (hE : PassesOwnAt (model prg w) ((A₀.deeper (envOfC name scope L a cd)).mark (some (.ref e))) (A₀.deeper (envOfC name scope L a cd)) (envOfC name scope L a cd) E := by passes_own) :
    wpAny (model prg w) (A₀.deeper (envOfC name scope L a cd)) (noteFrame (.ref e) (envOfC name scope L a cd))
      (fun _ s₂ => wpAny (model prg w) (A₀.deeper (envOfC name scope L a cd)) (setFlight (.ref e) none) (fun _ s₃ =>
        wpAny (model prg w) (A₀.deeper (envOfC name scope L a cd)) (handleBy (.ref e) (envOfC name scope L a cd) (.ExceptHandler (some (.Name x np)) none (b₀ :: suite) pos :: rest)) Q E s₃) E s₂) E s' := by
  obtain ⟨B, hB, hl, hfl⟩ := R
  have hL : B.get? L = none := by
    obtain ⟨_, ⟨L', _, hf, hn', _⟩, _⟩ := hfl.frames
    obtain rfl : L = L' := Option.some.inj hf
    exact hn'
  refine noteX (Around.frames_deeper K.stack) rfl hfl fun h₄ fl₄ sm₄ => ?_
  refine flightX (s := { s' with heap := h₄ }) fl₄ fun h₅ fl₅ sm₅ => ?_
  have F₅ : Fr h₀ L h₅ m := F.of_stays (fun b o q => fl₅.stays b o (hB b o q)) ((hsm.trans sm₄).trans sm₅)
  obtain ⟨oe, vs, _, _, _, hob, hobc, _⟩ := fl₅.at_
  refine wpAny_handleBy_cons (codeAny_handlers_test (nameX_K F₅ X T ex ?_ hk hx hd')) (by intro q; cases q)
  obtain ⟨nm, q, NN, bs, sn, sub, ab, col, dd, k0, k1, k2, k3, k5, hC⟩ := cls45 (X.keeps F₅.keep)
  refine wpAny_excMatches_sub_self hC hob hobc (by decide) (codeAny_handlers_suite ?_)
  refine flightX (s := { s' with heap := h₅ }) fl₅ fun h₆ fl₆ sm₆ => ?_
  have F₆ : Fr h₀ L h₆ m := F.of_stays (fun b o q => fl₆.stays b o (hB b o q)) (((hsm.trans sm₄).trans sm₅).trans sm₆)
  obtain ⟨oe6, vs6, _, _, _, he6, _, hd6, _, h26, _⟩ := fl₆.at_
  refine wpAny_passesOwnAt hE (k h₆ oe6 vs6 F₆ (fun q hq => ⟨fl₆.stays _ _ (hl q hq).1, (fun z => by have := (hl q hq).1; rw [z, hL] at this; cases this), (hl q hq).2⟩) (fresh_of_stays hB fl₆.new) (fun z => ?_) (fun q hq z => ?_) he6 hd6 h26)
  · obtain ⟨o, es, ep, ho, hdd, _⟩ := F₆.ns
    rw [z] at he6; rw [he6] at ho; cases ho
    rw [hd6] at hdd; cases hdd
  · have := (hl q hq).1
    rw [z, fl₆.new] at this; cases this
end
end
section
theorem scope_spec (w : World) (msg : Str) (tm : Tok) (news : Led) :
    CallSpec w 45 [.str msg tm, .none] 4 noneH news (fun v news' => ∃ e d t, v = .ref e ∧ (∀ p ∈ news, p.1 ≠ e) ∧ news' = (e, excO (some d) t) :: news) := by
  refine CallSpec.of ?_
  intro p loose mean mg mb hh dp un gd env outer A₀ base h₀ L m hpZ gsZ drZ tkZ osZ Q E B F X N T hf hk hH hdp hun hret
  (try k_fold)
  refine make45 F X N (by k_is) (by k_is) (by size_fits) fun e t h' F' N' l1 l2 => ?_
  have hoff : ∀ p ∈ news, p.1 ≠ e := fun p hp => Nat.ne_of_lt (Nat.lt_trans (l1 p hp) l2)
  have N1 : News h₀ L h' ((e, excO none t) :: news) := News.sub N' fun p hp => by
    rcases List.mem_cons.mp hp with h | h
    · rw [h]; exact .head _
    · exact .tail _ (.tail _ h)
  have hw : (Code.builtin "type.__call__" { pos := [Value.ref 45, Value.str msg tm, Value.none] }).weight = 1 := rfl
  have hw2 : (Code.builtin "type.__call__" { pos := [Value.ref 45, Value.str msg tm, Value.none] }).cUnits ≤ 100 := Nat.le_of_ble_eq_true rfl
  refine' CallSpec.use ?kS (by with_unfolding_all rfl) ?kB ?kF ?kX ?kN ?kT ?kf ?kk ?kH ?kd ?ku ?_
  case kN => exact N1
  case kB => exact B
  case kF => exact F'
  case kX => exact X
  case kT => exact T
  case kS => exact lazy_spec w e t msg tm news hoff
  case kf => assumption
  case kk => assumption
  case kH => exact hH
  case kd => (dsimp only [Around.deeper, Around.in1, Around.under]; (try rw [hw]); omega)
  case ku => (dsimp only [Around.deeper, Around.in1, Around.under]; (try rw [hw]); omega)
  rintro v h'' tk' news' F2 N2 ⟨rfl, d, t', rfl⟩
  exact ⟨rfl, hret _ _ _ _ F2 N2 ⟨e, d, t', rfl, hoff, rfl⟩⟩
def CallSpecX (w : World) (f : Addr) (vs : List Value) (lv : Nat) (news : Led) (Post : Value → Led → Prop) (Bad : Prop) : Prop :=
  ∀ (p : Program) (loose : List Str) (mean : ExcName → Option Value) (mg mb : Str → Option Value) (dp un : Nat) (gd : Option (List Code)) (env : Env) (outer : List Env) (A₀ : Around) (base h₀ : Heap) (L : Addr) (m : Str → Option Value) (s : Shared) (Q E : Value → Shared → Prop),
    Below A₀ base outer h₀ → Fr h₀ L s.heap m → (hd.heap_39 w.params).In h₀ → News h₀ L s.heap news → Top p loose mean mg mb h₀ → env.frame = some L → env.scope.kind = .function → dp + 10 * lv < recursionLimit → un + 100 * lv < cLine →
    (∀ v h' tk' news', Fr h₀ L h' m → News h₀ L h' news' → Post v news' → Q v { s with heap := h', toks := tk' }) →
    (Bad → ∀ e g h' tk', Fr h₀ L g m → RaisedX base (env :: outer) e news h' → g.UpToSlots h' → E (.ref e) { s with heap := h', toks := tk' }) →
    wpAny (model prg w) { handled := none, depth := dp, frames := some (env :: outer), guards := gd, units := un } (call (.ref f) vs) Q E s
end
section
theorem twoDicts {w : World} {h₀ h : Heap} {L kd ud td : Addr} {ko uo o3 : Obj} {R : Led} (N : News h₀ L h ((td, o3) :: (ud, uo) :: (kd, ko) :: R)) (g1 : ∀ p ∈ R, p.1 < kd) (g2 : kd < ud ∧ AllLt ud R) (a : (kd == sysModules) = false) (b : (ud == sysModules) = false) (c : ko.IsDictOf (PySem.strKind prg w) []) (d : uo.IsDictOf (PySem.strKind prg w) []) :
    ∃ kd' ud' ko' uo', kd' = kd ∧ ud' = ud ∧ ko' = ko ∧ uo' = uo ∧ News h₀ L h ((kd, ko) :: (ud, uo) :: R) ∧ (∀ p ∈ R, p.1 < kd) ∧ (kd < ud ∧ AllLt ud R) ∧ (kd == sysModules) = false ∧ (ud == sysModules) = false ∧ ko.IsDictOf (PySem.strKind prg w) [] ∧ uo.IsDictOf (PySem.strKind prg w) [] :=
  ⟨kd, ud, ko, uo, rfl, rfl, rfl, rfl, News.sub N fun p hp => by
    revert p hp; walk_at "my_sub", g1, g2, a, b, c, d⟩
local macro_rules | `(tactic| walk_at "call ref") => `(tactic| (k_here; (with_reducible show wpAny _ _ (call (Value.ref 200) _) _ _ _); refine halt ?_))
local macro_rules | `(tactic| walk_at "call ref") => `(tactic| (k_here; (with_reducible show wpAny _ _ (call (Value.ref 101) _) _ _ _); refine halt ?_))
local macro_rules | `(tactic| walk_at "call ref") => `(tactic| (k_here; (with_reducible show wpAny _ _ (call (Value.ref 108) _) _ _ _); refine halt ?_))
local macro_rules | `(tactic| walk_at "call ref") => `(tactic| (k_here; (with_reducible show wpAny _ _ (call (Value.ref 45) _) _ _ _); refine halt ?_))
local macro_rules | `(tactic| walk_at "exec Raise some none") => `(tactic| (k_here; (with_reducible show wpAny _ _ (exec (Stmt.Raise (some _) none _) _) _ _ _); k_dflt (refine raise45 (by rfl) ?_)))
local macro_rules | `(tactic| walk_at "binaryOp Add str str") => `(tactic| (k_here; (with_reducible show wpAny _ _ (binaryOp Operator.Add (Value.str _ _) (Value.str _ _)) _ _ _); (refine KXadd.add (K := 1000) (L := 10000) (by first | assumption | decide +kernel) (by assumption) (by decide) ?_); intro _ _ _))
local macro_rules | `(tactic| walk_at "call builtin:str.join") => `(tactic| (k_here; (with_reducible show wpAny _ _ (call (Value.builtin _) [Value.str _ _, Value.ref _]) _ _ _); k_dflt (refine join_listW (isListN (by k_asm) (by k_mem)) (by first | assumption | (simp only [List.toList_toArray]; assumption)) (by decide +kernel) (by omega) ?_); intro t' k'))
inductive OJ1 (w : World) (knd usd : Addr) (news : Led) (rows : List Row) (M0 : Str → Option Value) (i : Nat) (m : Str → Option Value) (nw : Led) : Prop where
  | mk (ko : Obj) (kkvs : List (Str × Value)) (uo : Obj) (ukvs : List (Str × Value)) (u : Option Value) (K : Led) (h1_ : nw = (knd, ko) :: (usd, uo) :: K) (h2_ : m = setM M0 (Str.ofString "module") u) (h3_ : Grown news K) (h4_ : ∀ p ∈ K, p.1 ≠ knd) (h5_ : ∀ p ∈ K, p.1 ≠ usd) (h6_ : ko.IsDictOf (PySem.strKind prg w) kkvs) (h7_ : KVR (fun r v => ModIn w K v r) kkvs (rowF (rows.take i))) (h8_ : kkvs.length = i) (h9_ : uo.IsDictOf (PySem.strKind prg w) ukvs) (h10_ : KVR (fun xs v => TextsIn K v xs) ukvs (useF (rows.take i))) (h11_ : ukvs.length = i) (h12_ : ((rows.take i).map (·.1)).Nodup) : OJ1 w knd usd news rows M0 i m nw
inductive OJ2 (w : World) (fnd : Addr) (Z2 : Led) (rows : List Row) (S : TS) (M5 : Str → Option Value) (i : Nat) (m : Str → Option Value) (nw : Led) : Prop where
  | mk (fvs : List Value) (n : Nat) (u : Option Value) (Z3 : Led) (h1_ : nw = (fnd, listO fvs n) :: Z3) (h2_ : m = setM M5 (Str.ofString "group") u) (h3_ : Grown Z2 Z3) (h4_ : ∀ p ∈ Z3, p.1 ≠ fnd) (h5_ : Each (fun v g => ∃ r, r ∈ rows ∧ g = [r.1] ∧ ModIn w Z2 v r) fvs (S.fnd.take i)) (h6_ : ∀ g ∈ S.fnd.take i, ¬ isRound rows g) : OJ2 w fnd Z2 rows S M5 i m nw
inductive OrdP (w : World) (rows : List Row) (news : Led) (v : Value) (news' : Led) : Prop where
  | mk (h1_ : Grown news news') (h2_ : (rows.map (·.1)).Nodup) (l : Addr) (vs : List Value) (n : Nat) (S : TS) (h3_ : v = .ref l) (h4_ : (l, listO vs n) ∈ news') (h5_ : Grouped rows S) (h6_ : ∀ g ∈ S.fnd, ¬ isRound rows g) (h7_ : Each (fun v g => ∃ r, r ∈ rows ∧ g = [r.1] ∧ ModIn w news' v r) vs S.fnd) : OrdP w rows news v news'
set_option maxHeartbeats 8000000 in
theorem order_spec (w : World) (ml : Addr) (mvs : List Value) (mn : Nat) (rows : List Row) (news : Led) (hml : (ml, listO mvs mn) ∈ news) (hE : Each (ModIn w news) mvs rows) (hlen : rows.length ≤ 7) (hsh : ∀ r ∈ rows, r.2.length ≤ 7) (hnm : ∀ r ∈ rows, r.1.length ≤ 100) :
    CallSpecX w 205 [.ref ml] 8 news (OrdP w rows news) (Bad rows) := by
  intro p loose mean mg mb dp un gd env outer A₀ base h₀ L m s Q E B F X N T hf hk hdp hun hret hraise
  (try k_fold)
  have hH : HOk none h₀ := .inl rfl
  refine wpAny_call ?_
  refine' code_def ?k1 ?k2 ?k3 ?k4 ?k5 ?kA ?kF ?kK ?k6 ?k7 ?k8 ?k9 ?kB ?_ ?c2 ?c3 ?c4 ?c5
  case kA => exact rfl
  case kF => assumption
  case kK => assumption
  case k1 => k_asm
  case k2 => k_asm
  case k3 => k_asm
  case k4 => k_asm
  case k5 => k_asm
  case k6 => k_is
  case k7 => k_is
  case k8 => walk_at "my_room"
  case k9 => exact BindsTo.of_eq rfl
  case c5 => decide
  case kB => exact locs rfl
  case c2 => exact rfl
  case c3 => exact rfl
  case c4 => exact rfl
  intro gB LF hF FG FF NF BF XF TF
  dsimp only
  k_fold
  refine letX ?_
  intro Mz ez Az
  refine letF FF ?_
  clear FF
  intro mF FF
  have hHg := HOk.keeps hH (Fr.keep FG)
  have hml' : mvs.length = rows.length := hE.1
  k_steps
  refine Halt.go ?_
  rename (News gB LF _ _) => N1
  rename (Fr gB LF _ _) => F1
  refine gG ?_
  intro Pz kz
  obtain ⟨knd, usd, ko, uo, rfl, rfl, rfl, rfl, N2, g1, g2, lok, lou, hsK, hsU⟩ := twoDicts (w := w) N1 (by assumption) (by assumption) (by assumption) (by assumption) (by assumption) (by assumption)
  refine kz ?_
  clear kz
  clear N1
  have kou : knd ≠ usd := Nat.ne_of_lt g2.1
  obtain ⟨M0, hM0, F2⟩ := frOut F1
  refine for_list (J := OJ1 w knd usd news rows M0) hHg F2 N2 (.tail _ (.tail _ hml))
    ⟨ko, [], uo, [], _, news, rfl, (setM_self _ _).symm, Grown.refl, lt_ne g1, allLt_ne g2.2, hsK, by rw [List.take_zero]; exact .nil, rfl, hsU, by rw [List.take_zero]; exact .nil, rfl, by rw [List.take_zero]; exact .nil⟩ ?_ ?_ ?_
  · intro i m nw hJz
    (try k_fold)
    refine gG ?_
    intro Pz kz
    obtain ⟨ko', kkvs, uo', ukvs, u, K, rfl, _, hg, _⟩ := hJz
    refine kz ?_
    clear kz
    exact .tail _ (.tail _ (hg.1 _ hml))
  · intro i v m₁ nw I oI h tk hv hJ hnI hI₀ F6 N6
    (try k_fold)
    refine gG ?_
    intro Pz kz
    obtain ⟨ko', kkvs, uo', ukvs, u, K, rfl, rfl, hgK, hoK, hoU, hdk, hkk, hlk, hdu, hku, hlu, hnd⟩ := hJ
    refine kz ?_
    clear kz
    refine gG ?_
    intro Pz kz
    obtain ⟨r, hr, am, dm, s0, s1, s2, s3, s4, s5, tm, il, dl, ivs, im, rfl, ha, hd, hil, hiv⟩ := hE.2 i v hv
    refine kz ?_
    clear kz
    have hri := (List.getElem?_eq_some_iff.mp hr).1
    have hrm := List.mem_of_getElem? hr
    have hr2 := hsh r hrm
    have hr1 := hnm r hrm
    have F7 : Fr gB LF h _ := F6
    have N7 : News gB LF h _ := N6
    clear F6 N6
    subst hM0
    have haK := hgK.1 _ ha
    have hdK := hgK.1 _ hd
    have hilK := hgK.1 _ hil
    have hivK := hiv.mono (R' := ImpIn w K) fun _ _ z => z.mono hgK.1
    have i1 := neNat (hnI _ (.head _))
    have i2 := neNat (hnI _ (.tail _ (.head _)))
    have i3 : ∀ p ∈ K, p.1 ≠ I := fun p hp => hnI p (.tail _ (.tail _ hp))
    dsimp only at i1 i2
    have i1_s := Ne.symm i1
    have i2_s := Ne.symm i2
    have lim1 : (Str.ofString "two modules are called ").length ≤ 1000 := by decide +kernel
    have lim2 : r.1.length ≤ 10000 := by omega
    by_cases hin : r.1 ∈ (rows.take i).map (·.1)
    · obtain ⟨r', hr', _⟩ := rowF_some hin
      obtain ⟨vv, hvv, _⟩ := hkk.some hr'
      k_steps
      refine Halt.go ?_
      k_dflt walk_at "my_use"
      case kS => exact scope_spec w _ _ _
      walk_at "my_used"
      rename (∃ _ _ _, _) => hP
      refine gG ?_
      intro Pz kz
      obtain ⟨e, d, t, rfl, hoe, rfl⟩ := hP
      refine kz ?_
      clear kz
      rename (News gB LF _ _) => NR
      rename (Fr gB LF _ _) => FR
      refine ⟨e, d, t, rfl, XF.keeps FR.keep, (NR _ (.head _)).1, ?_⟩
      refine leaveX (news := news) BF FR NR (.head _) (fun p hp => ⟨.tail _ (.tail _ (.tail _ (.tail _ (hgK.1 p hp)))), hoe p (.tail _ (.tail _ (.tail _ (hgK.1 p hp))))⟩) fun h' R U => ?_
      refine hraise (.inl fun q => ?_) e gB h' _ FG R U
      exact take_nodup q (i := i) (x := r.1) (by rw [List.getElem?_map, hr]; rfl) (by rw [← List.map_take]; exact hin)
    · have hvk := hkk.none (rowF_none hin)
      have hvu := hku.none (k := r.1) (by unfold useF; rw [rowF_none hin]; rfl)
      k_steps
      refine Halt.go ?_
      rename Obj => ko2
      rename (News gB LF _ _) => N8
      rename (Fr gB LF _ _) => F8
      rename (Obj.IsDictOf _ _ (stored _ _ _)) => hdk2
      k_dflt walk_at "my_use"
      case kS => exact allimp_spec w am dm il dl s0 s1 s2 s3 s4 s5 tm r ivs im _ (.tail _ (.tail _ (.tail _ haK))) (.tail _ (.tail _ (.tail _ hdK))) (.tail _ (.tail _ (.tail _ hilK))) (hivK.mono fun _ _ z => z.mono fun p hp => .tail _ (.tail _ (.tail _ hp))) (by omega)
      walk_at "my_used"
      rename (AllP ..) => hP
      refine gG ?_
      intro Pz kz
      obtain ⟨hg1, li, lvs, lk, rfl, hli, hlv⟩ := hP
      refine kz ?_
      clear kz
      rename (News gB LF _ _) => N9
      rename (Fr gB LF _ _) => F9
      clear N8 F8 N7 F7
      refine gG ?_
      intro Pz kz
      obtain ⟨K1, NR, g2', off2, mem2, new2⟩ := regrow (M := [(I, oI), (knd, ko2), (usd, uo')]) (X := K) N9 hg1 (fun p hp q => by
        simp only [List.map_cons, List.map_nil, List.mem_cons, List.not_mem_nil, or_false] at q
        rcases q with q | q | q
        · exact i3 p hp q
        · exact hoK p hp q
        · exact hoU p hp q)
      refine kz ?_
      clear kz
      simp only [List.cons_append, List.nil_append] at NR
      have y1 : ∀ p ∈ K1, p.1 ≠ I := notmem_ne off2 (by simp)
      have y2 : ∀ p ∈ K1, p.1 ≠ knd := notmem_ne off2 (by simp)
      have y3 : ∀ p ∈ K1, p.1 ≠ usd := notmem_ne off2 (by simp)
      have up1 : ∀ p ∈ _, p ∈ ((I, oI) :: (knd, ko2) :: (usd, uo') :: K1 : Led) := fun p hp => (mem2 p hp).elim (fun q => by
        simp only [List.mem_cons, List.not_mem_nil, or_false] at q ⊢
        rcases q with q | q | q <;> simp [q]) fun q => .tail _ (.tail _ (.tail _ q))
      have hli1 := up1 _ hli
      have hEv : Each (ImpIn w ((I, oI) :: (knd, ko2) :: (usd, uo') :: K1)) lvs (needs r) := by
        have k1 := hivK.mono (R' := ImpIn w ((I, oI) :: (knd, ko2) :: (usd, uo') :: K1)) fun _ _ z => z.mono fun p hp => .tail _ (.tail _ (.tail _ (g2'.1 p hp)))
        rcases hlv with ⟨rfl, e⟩ | ⟨x, rfl, e, hx⟩
        · rw [e]; exact k1
        · rw [e]; exact k1.cons (hx.mono up1)
      have hnl := needs_len r
      have hvl := hEv.1
      refine CSrc.mk hHg F9 NR hli1 (line_small (by omega)) (fun j ys nw => Grown ((I, oI) :: (knd, ko2) :: (usd, uo') :: K1) nw ∧ Each (fun v x => ∃ t, v = Value.str x t) ys ((needs r).take j)) ⟨Grown.refl, by rw [List.take_zero]; exact .nil⟩ (fun j ys nw z => z.1.1 _ hli1) ?_ ?_
      · intro j v ys8 nw8 I2 oI2 C oC D8 m₂ h8 tk8 E' hv2 hI8 hC hx2 FE NE off9 ne9
        (try k_fold)
        refine gG ?_
        intro Pz kz
        obtain ⟨x, hx', a2, d2, _, _, _, _, _, _, t, rfl, ha2, hd2⟩ := hEv.2 j v hv2
        refine kz ?_
        clear kz
        have ha' := hI8.1.1 _ ha2
        have hd' := hI8.1.1 _ hd2
        k_steps
        exact LCg.CompEnd.intro (by assumption) (by assumption) nw8 (fun _ h => h) off9 trivial ⟨hI8.1, hI8.2.step hx' ⟨_, rfl⟩⟩
      · intro g8 ys8 nw8 hI8
        unfold LCg.FinE
        intro D8 h8 tk8 FE NE o9
        rw [List.take_of_length_le (by rw [hvl]; exact Nat.le_refl _)] at hI8
        have hs8 := hI8.2.strs
        have hgA := Grown.cons (o := LCg.lst ys8) (off1_ne o9) hI8.1
        refine gG ?_
        intro Pz kz
        obtain ⟨K2, NR2, g3, off3, mem3, new3⟩ := regrow (M := [(I, oI), (knd, ko2), (usd, uo')]) (X := K1) NE hgA (fun p hp q => by
          simp only [List.map_cons, List.map_nil, List.mem_cons, List.not_mem_nil, or_false] at q
          rcases q with q | q | q
          · exact y1 p hp q
          · exact y2 p hp q
          · exact y3 p hp q)
        refine kz ?_
        clear kz
        simp only [List.cons_append, List.nil_append] at NR2
        have z1 : ∀ p ∈ K2, p.1 ≠ I := notmem_ne off3 (by simp)
        have z2 : ∀ p ∈ K2, p.1 ≠ knd := notmem_ne off3 (by simp)
        have z3 : ∀ p ∈ K2, p.1 ≠ usd := notmem_ne off3 (by simp)
        have hD8 : (D8, LCg.lst ys8) ∈ K2 := new3 _ (.head _) (not_own (newNe' (M := [(I, oI), (knd, ko2), (usd, uo')]) hI8.1 (off1_ne o9)))
        have haK2 := g3.1 _ (g2'.1 _ haK)
        have hdK2 := g3.1 _ (g2'.1 _ hdK)
        clear NE NR hgA
        k_steps
        rename (Obj.IsDictOf _ _ (stored ukvs _ _)) => hdu2
        rename (News gB LF _ _) => NA
        rename (Fr gB LF _ _) => FA
        exact TurnEnd.intro ((knd, ko2) :: (usd, _) :: K2) FA NA (.head _) (fun p hp => .tail _ hp) (ne_cons i1 (ne_cons i2 z1)) ⟨ko2, _, _, _, _, K2, rfl, setM1 _ _ _ _, hgK.trans (g2'.trans g3), z2, z3, hdk2,
          by rw [take_snoc hr, rowF_snoc hin]; exact (hkk.mono fun _ _ z => z.mono fun p hp => g3.1 _ (g2'.1 _ hp)).put ⟨am, dm, s0, s1, s2, s3, s4, s5, tm, il, dl, ivs, im, rfl, haK2, hdK2, g3.1 _ (g2'.1 _ hilK), hivK.mono fun _ _ z => z.mono fun p hp => g3.1 _ (g2'.1 _ hp)⟩,
          by rw [stored_len_new hvk, hlk], hdu2,
          by rw [take_snoc hr, useF_snoc hin]; exact (hku.mono fun _ _ z => z.mono fun p hp => g3.1 _ (g2'.1 _ hp)).put ⟨D8, ys8, _, rfl, hD8, hs8⟩,
          by rw [stored_len_new hvu, hlu],
          by
            rw [take_snoc hr, List.map_append, List.nodup_append]
            refine ⟨hnd, by simp, fun a ha b hb q => ?_⟩
            simp only [List.map_cons, List.map_nil, List.mem_singleton] at hb
            rw [q, hb] at ha
            exact hin ha⟩
  intro m₁ nw h3 tk3 hJz F3 N3
  (try k_fold)
  refine gG ?_
  intro Pz kz
  obtain ⟨ko', kkvs, uo', ukvs, u, K, rfl, rfl, hgK, hoK, hoU, hdk, hkk, hlk, hdu, hku, hlu, hnd⟩ := hJz
  refine kz ?_
  clear kz
  have F4 : Fr gB LF h3 _ := F3
  have N4 : News gB LF h3 _ := N3
  clear F3 N3
  rw [List.take_of_length_le (by rw [hml']; exact Nat.le_refl _)] at hkk hku hnd
  subst hM0
  have hmlK := hgK.1 _ hml
  k_steps
  rename_i fnd hf5 l5 h5 mz5 F5 N5 qkz tkz
  have hnX : fnd ≠ knd ∧ fnd ≠ usd := ⟨Nat.ne_of_gt l5.1, Nat.ne_of_gt l5.2.1⟩
  have hkZ : (knd, ko') ∈ ((knd, ko') :: (usd, uo') :: K : Led) := .head _
  have huZ : (usd, uo') ∈ ((knd, ko') :: (usd, uo') :: K : Led) := .tail _ (.head _)
  have hKZ : ∀ p ∈ K, p ∈ ((knd, ko') :: (usd, uo') :: K : Led) := fun p hp => .tail _ (.tail _ hp)
  have hgZ : Grown news ((knd, ko') :: (usd, uo') :: K) := hgK.trans (Grown.cons (ne_cons (Ne.symm kou) hoK) (Grown.cons hoU Grown.refl))
  have hlZ : ∀ p ∈ ((knd, ko') :: (usd, uo') :: K : Led), p.1 ≠ fnd := allLt_ne (l := (knd, ko') :: (usd, uo') :: K) l5
  generalize hZ : ((knd, ko') :: (usd, uo') :: K : Led) = Z at N5 hkZ huZ hKZ hgZ hlZ
  have hmlZ := hgZ.1 _ hml
  refine CSrc.mk hHg F5 N5 (.tail _ hmlZ) (line_small (by omega)) (fun j ys nw => Grown ((fnd, listO [] 0) :: Z) nw ∧ Each (fun v x => ∃ t, v = Value.str x t) ys ((rows.map (·.1)).take j)) ⟨Grown.refl, by rw [List.take_zero]; exact .nil⟩ (fun j ys nw z => z.1.1 _ (.tail _ hmlZ)) ?_ ?_
  · intro j v ys8 nw8 I2 oI2 C oC D8 m₂ h8 tk8 E' hv2 hI8 hC hx2 FE NE off9 ne9
    (try k_fold)
    refine gG ?_
    intro Pz kz
    obtain ⟨r, hr, am, dm, s0, s1, s2, s3, s4, s5, tm, il, dl, ivs, im, rfl, ha, hd, hil, hiv⟩ := hE.2 j v hv2
    refine kz ?_
    clear kz
    have ha' := hI8.1.1 _ (.tail _ (hgZ.1 _ ha))
    have hd' := hI8.1.1 _ (.tail _ (hgZ.1 _ hd))
    k_steps
    exact LCg.CompEnd.intro (by assumption) (by assumption) nw8 (fun _ h => h) off9 trivial ⟨hI8.1, hI8.2.step (by rw [List.getElem?_map, hr]; rfl) ⟨_, rfl⟩⟩
  · intro g8 ys8 nw8 hI8
    unfold LCg.FinE
    intro D8 h8 tk8 FE NE o9
    rw [List.take_of_length_le (by rw [List.length_map, hml']; exact Nat.le_refl _)] at hI8
    have hs8 := hI8.2.strs
    have hgA := Grown.cons (o := LCg.lst ys8) (off1_ne o9) hI8.1
    refine gG ?_
    intro Pz kz
    obtain ⟨Z1, NR1, g1', off1, mem1, new1⟩ := regrow (M := [(fnd, listO [] 0)]) (X := Z) NE hgA (fun p hp q => by
      simp only [List.map_cons, List.map_nil, List.mem_cons, List.not_mem_nil, or_false] at q
      exact hlZ p hp q)
    refine kz ?_
    clear kz
    simp only [List.cons_append, List.nil_append] at NR1
    have z1 : ∀ p ∈ Z1, p.1 ≠ fnd := notmem_ne off1 (by simp)
    have hD8 : (D8, LCg.lst ys8) ∈ Z1 := new1 _ (.head _) (not_own (newNe' (M := [(fnd, listO [] 0)]) hI8.1 (off1_ne o9)))
    have huZ1 := g1'.1 _ huZ
    have hkZ1 := g1'.1 _ hkZ
    clear NE hgA
    k_steps
    refine Halt.go ?_
    k_dflt walk_at "my_use"
    case kS => exact strong_spec w (rows.map (·.1)) hnd (by rw [List.length_map]; exact hlen) (useOf rows) (fun y hy => useOf_len hsh hy) D8 usd ys8 _ uo' ukvs ((fnd, listO [] 0) :: Z1) (.tail _ hD8) hs8 (.tail _ huZ1) hdu lou (fun y hy => by
      obtain ⟨v, e1, e2⟩ := hku.some (useF_at hy)
      exact ⟨v, e1, e2.mono fun p hp => .tail _ (g1'.1 _ (hKZ p hp))⟩)
    walk_at "my_used"
    rename (StrP ..) => hP
    refine gG ?_
    intro Pz kz
    obtain ⟨fl, gvs, gn, S, r0, rfl, hfl, hfln, hg2, P2, hst2, hnum2, hEg⟩ := hP
    refine kz ?_
    clear kz
    k_steps
    refine Halt.go ?_
    rename (News gB LF _ _) => N6
    rename (Fr gB LF _ _) => F6
    refine gG ?_
    intro Pz kz
    obtain ⟨Z2, NR2, g2z, off2, mem2, new2⟩ := regrow (M := [(fnd, listO [] 0)]) (X := Z1) N6 hg2 (fun p hp q => by
      simp only [List.map_cons, List.map_nil, List.mem_cons, List.not_mem_nil, or_false] at q
      exact z1 p hp q)
    refine kz ?_
    clear kz
    simp only [List.cons_append, List.nil_append] at NR2
    have z2 : ∀ p ∈ Z2, p.1 ≠ fnd := notmem_ne off2 (by simp)
    have hfl2 : (fl, listO gvs gn) ∈ Z2 := new2 _ hfl (by
      simp only [List.map_cons, List.map_nil, List.mem_cons, List.not_mem_nil, or_false]
      exact fun q => hfln _ (.head _) q.symm)
    have hEg2 : Each (fun v g => ∃ x r, TextsIn Z2 v (x :: r) ∧ Ranked (rows.map (·.1)) g (x :: r)) gvs S.fnd := ⟨hEg.1, fun i v hv => by
      refine gG ?_
      intro Pz kz
      obtain ⟨g, hgi, g', ⟨l, vs, k, rfl, hl, hs⟩, hR⟩ := hEg.2 i v hv
      refine kz ?_
      clear kz
      have hne := P2.fndE g (List.mem_of_getElem? hgi)
      cases g' with
      | nil => have := hR.len; exact absurd (List.length_eq_zero_iff.mp this.symm) hne
      | cons x r =>
        refine ⟨g, hgi, x, r, ⟨l, vs, k, rfl, ?_, hs⟩, hR⟩
        rcases mem2 _ hl with q | q
        · simp only [List.mem_cons, List.not_mem_nil, or_false, Prod.mk.injEq, seqO, Obj.mk.injEq, Data.seq.injEq] at q
          have : vs = [] := by have := q.2.2.2.1.1; simpa using this
          subst this
          cases hs
        · exact q⟩
    clear N6 hEg hfl hfln hg2
    have hgN : Grown news Z2 := hgZ.trans (g1'.trans g2z)
    have hu2 := g2z.1 _ huZ1
    have hk2 := g2z.1 _ hkZ1
    have hkk2 := hkk.mono (R' := fun r v => ModIn w Z2 v r) fun _ _ z => z.mono fun p hp => g2z.1 _ (g1'.1 _ (hKZ p hp))
    have hku2 := hku.mono (R' := fun xs v => TextsIn Z2 v xs) fun _ _ z => z.mono fun p hp => g2z.1 _ (g1'.1 _ (hKZ p hp))
    have hfl7 := P2.fndLen
    rw [List.length_map] at hfl7
    have hgl := hEg2.1
    clear mem2 new2 mem1 new1 hkk hku
    obtain ⟨M5, hM5, F7⟩ := frOut F6
    refine for_list (J := OJ2 w fnd Z2 rows S M5) hHg F7 NR2 (.tail _ hfl2)
      ⟨[], 0, _, Z2, rfl, (setM_self _ _).symm, Grown.refl, z2, by rw [List.take_zero]; exact .nil, fun g hg => by rw [List.take_zero] at hg; cases hg⟩ ?_ ?_ ?_
    · intro i m nw hJz
      (try k_fold)
      refine gG ?_
      intro Pz kz
      obtain ⟨fvs, n, u, Z3, rfl, _, hg, _⟩ := hJz
      refine kz ?_
      clear kz
      exact .tail _ (hg.1 _ hfl2)
    · intro i v m₁ nw I oI h tk hv hJ hnI hI₀ FA NA
      (try k_fold)
      refine gG ?_
      intro Pz kz
      obtain ⟨fvs, n, u2, Z3, rfl, rfl, hg3, hz3, hEf, hnr⟩ := hJ
      refine kz ?_
      clear kz
      refine gG ?_
      intro Pz kz
      obtain ⟨g, hgi, x, rr, ⟨lg, gv, ng, rfl, hlg, hgv⟩, hR⟩ := hEg2.2 i v hv
      refine kz ?_
      clear kz
      have hgm := List.mem_of_getElem? hgi
      have hxn : x ∈ rows.map (·.1) := hR.inn x (.head _)
      refine gG ?_
      intro Pz kz
      obtain ⟨rx, hrx, hrxm, hrx1⟩ := rowF_some hxn
      refine kz ?_
      clear kz
      obtain ⟨vk, hvk, hvkm⟩ := hkk2.some hrx
      refine gG ?_
      intro Pz kz
      obtain ⟨am, dm, s0, s1, s2, s3, s4, s5, tm, il, dl, ivs, im, rfl, ha, hd, hil, hiv⟩ := hvkm
      refine kz ?_
      clear kz
      obtain ⟨vu, hvu, hvut⟩ := hku2.some (useF_at hxn)
      have hi7 := (List.getElem?_eq_some_iff.mp hgi).1
      have FB : Fr gB LF h _ := FA
      have NB : News gB LF h _ := NA
      clear FA NA
      subst hM5
      have i1 := neNat (hnI _ (.head _))
      have i2 : ∀ p ∈ Z3, p.1 ≠ I := fun p hp => hnI p (.tail _ hp)
      dsimp only at i1
      have i1_s := Ne.symm i1
      have hlg3 := hg3.1 _ hlg
      have ha3 := hg3.1 _ ha
      have hd3 := hg3.1 _ hd
      have hk3 := hg3.1 _ hk2
      have hu3 := hg3.1 _ hu2
      have hvu3 := hvut.mono hg3.1
      have hglen := P2.grpLen hgm
      rw [List.length_map] at hglen
      have hrl : (x :: rr).length ≤ 7 := by rw [hR.len]; omega
      k_steps
      refine Halt.go ?_
      k_dflt walk_at "my_use"
      case kS => exact round_spec w lg usd gv ng (x :: rr) x rr uo' ukvs vu (useOf rows x) _ (.tail _ (.tail _ hlg3)) hgv rfl (by omega) (.tail _ (.tail _ hu3)) hdu lou hvu (hvu3.mono fun p hp => .tail _ (.tail _ hp))
      walk_at "my_used"
      rename (∃ _, _) => hP
      refine gG ?_
      intro Pz kz
      obtain ⟨b, rfl, hgb, hb⟩ := hP
      refine kz ?_
      clear kz
      rename (News gB LF _ _) => NC
      rename (Fr gB LF _ _) => FC
      clear NB FB
      refine gG ?_
      intro Pz kz
      obtain ⟨Z4, NR4, g4, off4, mem4, new4⟩ := regrow (M := [(I, oI), (fnd, listO fvs n)]) (X := Z3) NC hgb (fun p hp q => by
        simp only [List.map_cons, List.map_nil, List.mem_cons, List.not_mem_nil, or_false] at q
        rcases q with q | q
        · exact i2 p hp q
        · exact hz3 p hp q)
      refine kz ?_
      clear kz
      simp only [List.cons_append, List.nil_append] at NR4
      have w1 : ∀ p ∈ Z4, p.1 ≠ I := notmem_ne off4 (by simp)
      have w2 : ∀ p ∈ Z4, p.1 ≠ fnd := notmem_ne off4 (by simp)
      have hlg4 := g4.1 _ hlg3
      have ha4 := g4.1 _ ha3
      have hd4 := g4.1 _ hd3
      have hk4 := g4.1 _ hk3
      clear mem4 new4 NC
      cases hgv with | cons _ tx hgr =>
      rename List Value => gr
      have hEfl := hEf.1
      have hfvl : fvs.length ≤ 1000 := by rw [hEfl, List.length_take]; omega
      have hgrl := strs_len hgr
      have hlgl : (Value.str x tx :: gr).length ≤ 16777216 := by simp only [List.length_cons] at hrl ⊢; omega
      have lim3 : (Str.ofString "modules \x69mport one another: ").length ≤ 1000 := by decide +kernel
      have hnm2 : ∀ z ∈ (x :: rr), z.length ≤ 100 := fun z hz => by
        obtain ⟨q, hq, e⟩ := List.mem_map.mp (hR.inn z hz)
        rw [← e]; exact hnm q hq
      have hsum := join_lim (names := []) hrl hnm2
      have lim4 : (Txt.join (Str.ofString ", ") (x :: rr)).length ≤ 10000 := by
        have := PySem.StrLaws.join_length_le (Str.ofString ", ") (x :: rr)
        have h2 : (Str.ofString ", ").length = 2 := by decide +kernel
        rw [h2] at this
        rw [beq_iff_eq.mp (join_plain_closes (Str.ofString ", ") (x :: rr))]
        omega
      have hgs : StrsAre (Value.str x tx :: gr) (x :: rr) := .cons _ _ hgr
      have hlen1 := hR.len
      have isR : (1 < (x :: rr).length ∨ x ∈ useOf rows x) ↔ isRound rows g := by
        unfold isRound
        constructor
        · intro q
          by_cases h1 : 1 < g.length
          · exact .inl h1
          · have hne := P2.fndE g hgm
            have h2 : g.length = 1 := by have := List.length_pos_iff.mpr hne; omega
            obtain ⟨y, rfl⟩ := List.length_eq_one_iff.mp h2
            have e := hR.one y rfl
            simp only [List.cons.injEq] at e
            refine .inr ⟨y, rfl, ?_⟩
            rcases q with q | q
            · rw [hlen1] at q; exact absurd q h1
            · rw [← e.1]; exact q
        · rintro (q | ⟨y, rfl, q⟩)
          · exact .inl (by rw [hlen1]; exact q)
          · have e := hR.one y rfl
            simp only [List.cons.injEq] at e
            exact .inr (by rw [e.1]; exact q)
      cases b with
      | true =>
        have hrd := isR.mp (hb.mp rfl)
        k_steps
        refine Halt.go ?_
        k_dflt walk_at "my_use"
        case kS => exact scope_spec w _ _ _
        walk_at "my_used"
        rename (∃ _ _ _, _) => hP
        refine gG ?_
        intro Pz kz
        obtain ⟨e, d, t, rfl, hoe, rfl⟩ := hP
        refine kz ?_
        clear kz
        rename (News gB LF _ _) => NR
        rename (Fr gB LF _ _) => FR
        refine ⟨e, d, t, rfl, XF.keeps FR.keep, (NR _ (.head _)).1, ?_⟩
        have upn : ∀ p ∈ news, p ∈ ((I, oI) :: (fnd, listO fvs n) :: Z4 : Led) := fun p hp => .tail _ (.tail _ (g4.1 _ (hg3.1 _ (hgN.1 _ hp))))
        refine leaveX (news := news) BF FR NR (.head _) (fun p hp => ⟨.tail _ (upn p hp), hoe p (upn p hp)⟩) fun h' R U => ?_
        exact hraise (.inr ⟨S, ⟨r0, P2, hst2, hnum2⟩, g, hgm, hrd⟩) e gB h' _ FG R U
      | false =>
        have hnrd : ¬ isRound rows g := fun q => by have := hb.mpr (isR.mpr q); cases this
        k_steps
        rename (News gB LF _ _) => ND
        rename (Fr gB LF _ _) => FD
        refine TurnEnd.intro ((fnd, _) :: Z4) FD ND (.head _) (fun p hp => .tail _ hp) (ne_cons i1 w1) ⟨_, _, _, Z4, rfl, setM1 _ _ _ _, hg3.trans g4, w2, hEf.step hgi ⟨rx, hrxm, ?_, am, dm, s0, s1, s2, s3, s4, s5, tm, il, dl, ivs, im, rfl, ha, hd, hil, hiv⟩, fun q hq => ?_⟩
        · have hne := P2.fndE g hgm
          have h1 : ¬ 1 < g.length := fun q => hnrd (.inl q)
          have h2 : g.length = 1 := by have := List.length_pos_iff.mpr hne; omega
          obtain ⟨y, rfl⟩ := List.length_eq_one_iff.mp h2
          have e := hR.one y rfl
          simp only [List.cons.injEq] at e
          rw [hrx1, e.1]
        · rw [take_snoc hgi] at hq
          rcases List.mem_append.mp hq with q' | q'
          · exact hnr q q'
          · rw [List.mem_singleton.mp q']; exact hnrd
    intro m₁ nw h6 tk6 hJz F8 N8
    (try k_fold)
    refine gG ?_
    intro Pz kz
    obtain ⟨fvs, n, u2, Z3, rfl, rfl, hg3, hz3, hEf, hnr⟩ := hJz
    refine kz ?_
    clear kz
    have FB : Fr gB LF h6 _ := F8
    have NB : News gB LF h6 _ := N8
    clear F8 N8
    rw [List.take_of_length_le (by rw [hgl]; exact Nat.le_refl _)] at hEf hnr
    subst hM5
    k_steps
    rename News h₀ L _ _ => NZ
    rename Fr h₀ L _ _ => FZ
    exact hret _ _ _ _ FZ NZ ⟨(hgN.trans hg3).trans (Grown.cons hz3 Grown.refl), hnd, fnd, fvs, n, S, rfl, .head _, ⟨r0, P2, hst2, hnum2⟩, hnr, hEf.mono fun _ _ ⟨r, a, b, c⟩ => ⟨r, a, b, c.mono fun p hp => .tail _ (hg3.1 _ hp)⟩⟩
end
section
theorem lidx_in {vs : List Value} {d : Int} (h0 : 0 ≤ d) (h1 : d < (vs.length : Nat)) : ∃ v, lidx vs d = some v ∧ v ∈ vs := by
  have h2 : d.toNat < vs.length := by omega
  exact ⟨vs[d.toNat], lidx_at h0 rfl (List.getElem?_eq_getElem h2), List.getElem_mem h2⟩
local macro_rules | `(tactic| walk_at "call ref") => `(tactic| (k_here; (with_reducible show wpAny _ _ (call (Value.ref 219) _) _ _ _); refine halt ?_))
inductive OneP (vs : List Value) (g : Obj → Led) (v : Value) (news' : Led) : Prop where
  | mk (x' : Int) (y' : Int) (t' : Tok) (u' : Tok) (n' : Nat) (h1_ : v ∈ vs) (h2_ : SrcOk x' y') (h3_ : news' = g (srcO x' y' t' u' n')) : OneP vs g v news'
set_option maxHeartbeats 1000000 in
theorem one_spec (w : World) (src tl : Addr) (x y : Int) (t u : Tok) (n k : Nat) (vs : List Value) (news : Led) (g : Obj → Led) (U : UpdF src (srcO x y t u n) news g) (S : SrcOk x y) (h0 : 0 < vs.length) (h1 : vs.length < 100) (hl : (tl, listO vs k) ∈ news) (hg : ∀ o, (tl, listO vs k) ∈ g o) :
    CallSpec w 226 [.ref src, .ref tl] 2 anyH news (OneP vs g) := by
  refine CallSpec.of ?_
  intro p loose mean mg mb hh dp un gd env outer A₀ base h₀ L m hpZ gsZ drZ tkZ osZ Q E B F X N T hf hk hH hdp hun hret
  (try k_fold)
  refine wpAny_call ?_
  k_dflt walk_at "my_enter"
  have hz : vs.length ≤ 16777216 := by omega
  k_steps
  refine Halt.go ?_
  k_dflt walk_at "my_use"
  case kS => exact take_spec w src x y t u n _ _ news g U (by omega) (by omega) S
  walk_at "my_used"
  rename (TakP ..) => hP
  refine gG ?_
  intro Pz kz
  obtain ⟨d, x', y', t', u', n', tt', rfl, d0, d1, S', rfl⟩ := hP
  refine kz ?_
  clear kz
  obtain ⟨v, hv, hvm⟩ := lidx_in d0 d1
  have hl2 := hg (srcO x' y' t' u' n')
  k_steps
  exact hret _ _ _ _ (by assumption) (by assumption) ⟨x', y', t', u', n', hvm, S', rfl⟩
inductive OnePH (src : Addr) (vs : List Value) (R : Led) (v : Value) (news' : Led) : Prop where
  | mk (x' : Int) (y' : Int) (t' : Tok) (u' : Tok) (n' : Nat) (h1_ : v ∈ vs) (h2_ : SrcOk x' y') (h3_ : news' = (src, srcO x' y' t' u' n') :: R) : OnePH src vs R v news'
theorem one_specH (w : World) (src tl : Addr) (x y : Int) (t u : Tok) (n k : Nat) (vs : List Value) (R : Led) (hR : ∀ p ∈ R, p.1 ≠ src) (S : SrcOk x y) (h0 : 0 < vs.length) (h1 : vs.length < 100) (hl : (tl, listO vs k) ∈ R) :
    CallSpec w 226 [.ref src, .ref tl] 2 anyH ((src, srcO x y t u n) :: R) (OnePH src vs R) :=
  (one_spec w src tl x y t u n k vs _ _ (.head hR) S h0 h1 (.tail _ hl) fun _ => .tail _ hl).weaken fun _ _ ⟨a, b, c, d, e, f, g, h⟩ => ⟨a, b, c, d, e, f, g, h⟩
inductive TakPH (src : Addr) (top : Int) (R : Led) (v : Value) (news' : Led) : Prop where
  | mk (d : Int) (x' : Int) (y' : Int) (t' : Tok) (u' : Tok) (n' : Nat) (tt' : Tok) (h1_ : v = .int d tt') (h2_ : 0 ≤ d) (h3_ : d < top) (h4_ : SrcOk x' y') (h5_ : news' = (src, srcO x' y' t' u' n') :: R) : TakPH src top R v news'
theorem take_specH (w : World) (src : Addr) (x y : Int) (t u : Tok) (n : Nat) (top : Int) (tt : Tok) (R : Led) (hR : ∀ p ∈ R, p.1 ≠ src) (ht : 0 < top) (ht2 : top < 100) (S : SrcOk x y) :
    CallSpec w 219 [.ref src, .int top tt] 1 anyH ((src, srcO x y t u n) :: R) (TakPH src top R) :=
  (take_spec w src x y t u n top tt _ _ (.head hR) ht ht2 S).weaken fun _ _ ⟨a, b, c, d, e, f, g, h, i, j, k, l⟩ => ⟨a, b, c, d, e, f, g, h, i, j, k, l⟩
theorem toFront {h₀ h : Heap} {L src : Addr} {o : Obj} {all R : Led} (N : News h₀ L h all) (hs : (src, o) ∈ all) (k : ∀ p ∈ R, p ∈ all) : News h₀ L h ((src, o) :: R) := News.sub N fun p hp => by
  rcases List.mem_cons.mp hp with h | h
  · rw [h]; exact hs
  · exact k p h
end
section
theorem drawn1 {h₀ h : Heap} {L src i4 m6 c1 c2 : Addr} {oI oM oS o1 o2 : Obj} {R : Led} (N : News h₀ L h ((i4, oI) :: (m6, oM) :: (c1, o1) :: (c2, o2) :: (src, oS) :: R)) (l6 : c1 < m6 ∧ c2 < m6 ∧ src < m6 ∧ AllLt m6 R) (l : m6 < i4 ∧ c1 < i4 ∧ c2 < i4 ∧ src < i4 ∧ AllLt i4 R) (hR : ∀ p ∈ R, p.1 ≠ src) (s1 : ¬ src = c1) (s2 : ¬ src = c2) (s3 : c2 ≠ c1) (hR1 : ∀ p ∈ R, p.1 ≠ c1) (hR2 : ∀ p ∈ R, p.1 ≠ c2) :
    ∃ R1 : Led, (∀ p ∈ R1, p.1 ≠ src) ∧ (∀ p ∈ R1, p.1 ≠ c1) ∧ News h₀ L h ((src, oS) :: (c1, o1) :: R1) ∧ (i4, oI) ∈ R1 ∧ (m6, oM) ∈ R1 ∧ (c2, o2) ∈ R1 ∧ Grown R R1 := by
  refine ⟨(i4, oI) :: (m6, oM) :: (c2, o2) :: R, ?_, ?_, News.sub N ?_, .head _, .tail _ (.head _), .tail _ (.tail _ (.head _)), ?_⟩
  · exact ne_cons (Nat.ne_of_gt l.2.2.2.1) (ne_cons (Nat.ne_of_gt l6.2.2.1) (ne_cons (Ne.symm s2) hR))
  · exact ne_cons (Nat.ne_of_gt l.2.1) (ne_cons (Nat.ne_of_gt l6.1) (ne_cons s3 hR1))
  · intro p hp
    revert p hp; walk_at "my_sub"
  · exact Grown.cons (ne_cons (Nat.ne_of_lt l.1) (ne_cons (Nat.ne_of_lt l.2.2.1) (allLt_ne l.2.2.2.2))) (Grown.cons (ne_cons (Nat.ne_of_lt l6.2.1) (allLt_ne l6.2.2.2)) (Grown.cons hR2 Grown.refl))
theorem ints01 {v : Value} {a b c d : Tok} (h : v ∈ [Value.int 0 a, Value.int 0 b, Value.int 0 c, Value.int 1 d]) : ∃ c tc, v = Value.int c tc ∧ 0 ≤ c ∧ c ≤ 1 := by
  simp only [List.mem_cons, List.not_mem_nil, or_false] at h
  rcases h with h | h | h | h <;> exact ⟨_, _, h, by decide, by decide⟩
/-- where the draw's own objects lie -/
structure Dst (src cs lf pk : Addr) (R : Led) : Prop where
  a : cs ≠ src
  b : lf ≠ src
  c : pk ≠ src
  d : lf ≠ cs
  e : pk ≠ cs
  f : pk ≠ lf
  rs : ∀ p ∈ R, p.1 ≠ src
  rc : ∀ p ∈ R, p.1 ≠ cs
  rl : ∀ p ∈ R, p.1 ≠ lf
  rp : ∀ p ∈ R, p.1 ≠ pk
theorem Dst.offS {src cs lf pk : Addr} {R : Led} (h : Dst src cs lf pk R) {o1 o2 o3 : Obj} : ∀ p ∈ ((cs, o1) :: (lf, o2) :: (pk, o3) :: R : Led), p.1 ≠ src := ne_cons h.a (ne_cons h.b (ne_cons h.c h.rs))
def Short (xs : List Str) : Prop := ∀ x ∈ xs, x.length ≤ 100
theorem menu_pick {a b c d e f : Tok} {k : Int} (k0 : 0 ≤ k) (k1 : k ≤ 1) : ∃ xs, StrsAre (kms_pick [Value.str (Str.ofString "A") a, Value.str (Str.ofString "B") b, Value.str (Str.ofString "C") c, Value.str (Str.ofString "Main") d, Value.str (Str.ofString "Prelude") e, Value.str (Str.ofString "Prim") f] (some k) none) xs ∧ Short xs ∧ xs.length ≤ 6 ∧ xs ≠ [] := by
  have h0 : StrsAre [Value.str (Str.ofString "B") b, Value.str (Str.ofString "C") c, Value.str (Str.ofString "Main") d, Value.str (Str.ofString "Prelude") e, Value.str (Str.ofString "Prim") f] [Str.ofString "B", Str.ofString "C", Str.ofString "Main", Str.ofString "Prelude", Str.ofString "Prim"] := .cons _ _ (.cons _ _ (.cons _ _ (.cons _ _ (.cons _ _ .nil))))
  have hs : Short [Str.ofString "A", Str.ofString "B", Str.ofString "C", Str.ofString "Main", Str.ofString "Prelude", Str.ofString "Prim"] := fun x hx => by
    simp only [List.mem_cons, List.not_mem_nil, or_false] at hx
    rcases hx with rfl | rfl | rfl | rfl | rfl | rfl <;> decide +kernel
  rcases (show k = 0 ∨ k = 1 by omega) with rfl | rfl
  · exact ⟨_, .cons _ _ h0, hs, by decide, by simp⟩
  · exact ⟨_, h0, fun x hx => hs x (.tail _ hx), by decide, by simp⟩
theorem drawn2 {h₀ h : Heap} {L src cs lf pk : Addr} {oS oC : Obj} {R1 : Led} {a b c d e f : Tok} {k : Int} (N : News h₀ L h ((pk, listO [] 0) :: (lf, listO (kms_pick [Value.str (Str.ofString "A") a, Value.str (Str.ofString "B") b, Value.str (Str.ofString "C") c, Value.str (Str.ofString "Main") d, Value.str (Str.ofString "Prelude") e, Value.str (Str.ofString "Prim") f] (some k) none) 0) :: (src, oS) :: (cs, oC) :: R1))
    (l1 : ∀ p ∈ ((src, oS) :: (cs, oC) :: R1 : Led), p.1 < lf) (l2 : lf < pk ∧ src < pk ∧ cs < pk ∧ AllLt pk R1) (k0 : 0 ≤ k) (k1 : k ≤ 1) (hRs : ∀ p ∈ ((cs, oC) :: R1 : Led), p.1 ≠ src) (hC : ∀ p ∈ R1, p.1 ≠ cs) :
    ∃ lvs lf' pk' lxs, lvs = kms_pick [Value.str (Str.ofString "A") a, Value.str (Str.ofString "B") b, Value.str (Str.ofString "C") c, Value.str (Str.ofString "Main") d, Value.str (Str.ofString "Prelude") e, Value.str (Str.ofString "Prim") f] (some k) none ∧ lf' = lf ∧ pk' = pk ∧ StrsAre lvs lxs ∧ Short lxs ∧ lxs.length ≤ 6 ∧ lxs ≠ [] ∧ News h₀ L h ((src, oS) :: (cs, oC) :: (lf, listO lvs 0) :: (pk, listO [] 0) :: R1) ∧ Dst src cs lf pk R1 := by
  refine gG ?_
  intro Pz kz
  obtain ⟨xs, e1, e2, e3, e4⟩ := menu_pick (a := a) (b := b) (c := c) (d := d) (e := e) (f := f) k0 k1
  refine kz ?_
  clear kz
  refine ⟨_, _, _, xs, rfl, rfl, rfl, e1, e2, e3, e4, News.sub N fun p hp => ?_, ?_⟩
  · revert p hp; walk_at "my_sub"
  · exact ⟨hRs _ (.head _), Nat.ne_of_gt (l1 _ (.head _)), Nat.ne_of_gt l2.2.1, Nat.ne_of_gt (l1 _ (.tail _ (.head _))), Nat.ne_of_gt l2.2.2.1, Nat.ne_of_gt l2.1, fun p hp => hRs p (.tail _ hp), hC, fun p hp => Nat.ne_of_lt (l1 p (.tail _ (.tail _ hp))), allLt_ne l2.2.2.2⟩
theorem drawn3 {h₀ h : Heap} {L src cs pk rw : Addr} {oS oC oP : Obj} {R1 : Led} (N : News h₀ L h ((rw, listO [] 0) :: (src, oS) :: (cs, oC) :: (pk, oP) :: R1)) (l : src < rw ∧ cs < rw ∧ pk < rw ∧ AllLt rw R1) {lf : Addr} (D : Dst src cs lf pk R1) :
    ∃ rw', rw' = rw ∧ News h₀ L h ((src, oS) :: (cs, oC) :: (rw, listO [] 0) :: (pk, oP) :: R1) ∧ Dst src cs rw pk R1 :=
  ⟨rw, rfl, News.sub N fun p hp => by
    revert p hp; walk_at "my_sub", D.a, Nat.ne_of_gt l.1, D.c, Nat.ne_of_gt l.2.1, D.e, Nat.ne_of_lt l.2.2.1, D.rs, D.rc, allLt_ne l.2.2.2, D.rp⟩
theorem headOf {h₀ h : Heap} {L D : Addr} {o : Obj} {R : Led} (N : News h₀ L h ((D, o) :: R)) (l : ∀ p ∈ R, p.1 < D) : ∃ D', D' = D ∧ News h₀ L h ((D', o) :: R) ∧ ∀ p ∈ R, p.1 < D' := ⟨D, rfl, N, l⟩
theorem pick_texts {vs : List Value} {xs : List Str} (h : StrsAre vs xs) (hs : Short xs) (lo hi : Option Int) : ∃ ys, StrsAre (kms_pick vs.toArray.toList lo hi) ys ∧ Short ys ∧ ys.length ≤ xs.length := by
  rw [List.toList_toArray]
  unfold kms_pick
  refine ⟨_, (h.drop' _).take' _, fun x hx => hs x (List.mem_of_mem_drop (List.mem_of_mem_take hx)), ?_⟩
  refine Nat.le_trans (List.length_take_le' _ _) ?_
  rw [List.length_drop]; omega
theorem off5 {X : Led} {a b c d e : Addr} (h1 : ∀ p ∈ X, p.1 ≠ a) (h2 : ∀ p ∈ X, p.1 ≠ b) (h3 : ∀ p ∈ X, p.1 ≠ c) (h4 : ∀ p ∈ X, p.1 ≠ d) (h5 : ∀ p ∈ X, p.1 ≠ e) : ∀ p ∈ X, p.1 ∉ ([a, b, c, d, e] : List Addr) := fun p hp q => by
  simp only [List.mem_cons, List.not_mem_nil, or_false] at q
  rcases q with q | q | q | q | q
  · exact h1 p hp q
  · exact h2 p hp q
  · exact h3 p hp q
  · exact h4 p hp q
  · exact h5 p hp q
theorem Dst.to {src cs rw pk : Addr} {K K' : Led} (D : Dst src cs rw pk K) (h1 : ∀ p ∈ K', p.1 ≠ src) (h2 : ∀ p ∈ K', p.1 ≠ cs) (h3 : ∀ p ∈ K', p.1 ≠ rw) (h4 : ∀ p ∈ K', p.1 ≠ pk) : Dst src cs rw pk K' := ⟨D.a, D.b, D.c, D.d, D.e, D.f, h1, h2, h3, h4⟩
theorem drawnB {h₀ h : Heap} {L D l' src I cs rw pk : Addr} {oD o2 oS oI oC oR oP : Obj} {K : Led} (N : News h₀ L h ((D, oD) :: (l', o2) :: (src, oS) :: (I, oI) :: (cs, oC) :: (rw, oR) :: (pk, oP) :: K)) (l : l' < D ∧ src < D ∧ I < D ∧ cs < D ∧ rw < D ∧ pk < D ∧ AllLt D K) (DK : Dst src cs rw pk K) (hI : ∀ p ∈ K, p.1 ≠ I) :
    ∃ D0, D0 = D ∧ News h₀ L h ((I, oI) :: (src, oS) :: (cs, oC) :: (rw, oR) :: (pk, oP) :: (D, oD) :: K) ∧ Dst src cs rw pk ((D, oD) :: K) ∧ (∀ p ∈ ((D, oD) :: K : Led), p.1 ≠ I) ∧ ∀ p ∈ K, p.1 ≠ D :=
  ⟨D, rfl, News.sub N fun p hp => by
    revert p hp; walk_at "my_sub", DK.to (ne_cons (Nat.ne_of_gt l.2.1) DK.rs) (ne_cons (Nat.ne_of_gt l.2.2.2.1) DK.rc) (ne_cons (Nat.ne_of_gt l.2.2.2.2.1) DK.rl) (ne_cons (Nat.ne_of_gt l.2.2.2.2.2.1) DK.rp), ne_cons (Nat.ne_of_gt l.2.2.1) hI, allLt_ne l.2.2.2.2.2.2⟩
theorem shortCat {a b : List Str} (h : Short a) (k : ∀ x ∈ b, x.length ≤ 100) : Short (a ++ b) := fun z hz => (List.mem_append.mp hz).elim (h z) (k z)
theorem drawnC {h₀ h : Heap} {L D l' src I cs rw pk : Addr} {oD o2 oS oI oC oR oP : Obj} {K : Led} (N : News h₀ L h ((D, oD) :: (l', o2) :: (I, oI) :: (src, oS) :: (cs, oC) :: (rw, oR) :: (pk, oP) :: K)) (l : l' < D ∧ I < D ∧ src < D ∧ cs < D ∧ rw < D ∧ pk < D ∧ AllLt D K) (DK : Dst src cs rw pk K) (hI : ∀ p ∈ K, p.1 ≠ I) :
    ∃ D0, D0 = D ∧ News h₀ L h ((I, oI) :: (src, oS) :: (cs, oC) :: (rw, oR) :: (pk, oP) :: (D, oD) :: K) ∧ Dst src cs rw pk ((D, oD) :: K) ∧ (∀ p ∈ ((D, oD) :: K : Led), p.1 ≠ I) ∧ ∀ p ∈ K, p.1 ≠ D :=
  ⟨D, rfl, News.sub N fun p hp => by
    revert p hp; walk_at "my_sub", DK.to (ne_cons (Nat.ne_of_gt l.2.2.1) DK.rs) (ne_cons (Nat.ne_of_gt l.2.2.2.1) DK.rc) (ne_cons (Nat.ne_of_gt l.2.2.2.2.1) DK.rl) (ne_cons (Nat.ne_of_gt l.2.2.2.2.2.1) DK.rp), ne_cons (Nat.ne_of_gt l.2.1) hI, allLt_ne l.2.2.2.2.2.2⟩
theorem drawnD {h₀ h : Heap} {L D D8 src I cs rw pk : Addr} {oD o8 oS oI oC oR oP oS' oI' oC' oR' oP' : Obj} {K : Led} (N : News h₀ L h ((D, oD) :: (D8, o8) :: (src, oS) :: (I, oI) :: (cs, oC) :: (rw, oR) :: (pk, oP) :: K)) (l : D8 < D ∧ src < D ∧ I < D ∧ cs < D ∧ rw < D ∧ pk < D ∧ AllLt D K)
    (o9 : LCg.Off1 D8 ((src, oS') :: (I, oI') :: (cs, oC') :: (rw, oR') :: (pk, oP') :: K)) (DK : Dst src cs rw pk K) (hI : ∀ p ∈ K, p.1 ≠ I) :
    ∃ D0, D0 = D ∧ News h₀ L h ((I, oI) :: (src, oS) :: (cs, oC) :: (rw, oR) :: (pk, oP) :: (D, oD) :: (D8, o8) :: K) ∧ Dst src cs rw pk ((D, oD) :: (D8, o8) :: K) ∧ (∀ p ∈ ((D, oD) :: (D8, o8) :: K : Led), p.1 ≠ I) ∧ Grown K ((D, oD) :: (D8, o8) :: K) := by
  have h8 := off1_ne o9
  have a1 := h8 _ (.head _)
  have a2 := h8 _ (.tail _ (.head _))
  have a3 := h8 _ (.tail _ (.tail _ (.head _)))
  have a4 := h8 _ (.tail _ (.tail _ (.tail _ (.head _))))
  have a5 := h8 _ (.tail _ (.tail _ (.tail _ (.tail _ (.head _)))))
  have a6 : ∀ p ∈ K, p.1 ≠ D8 := fun p hp => h8 p (.tail _ (.tail _ (.tail _ (.tail _ (.tail _ hp)))))
  refine ⟨D, rfl, News.sub N fun p hp => ?_, DK.to (ne_cons (Nat.ne_of_gt l.2.1) (ne_cons (Ne.symm a1) DK.rs)) (ne_cons (Nat.ne_of_gt l.2.2.2.1) (ne_cons (Ne.symm a3) DK.rc)) (ne_cons (Nat.ne_of_gt l.2.2.2.2.1) (ne_cons (Ne.symm a4) DK.rl)) (ne_cons (Nat.ne_of_gt l.2.2.2.2.2.1) (ne_cons (Ne.symm a5) DK.rp)), ne_cons (Nat.ne_of_gt l.2.2.1) (ne_cons (Ne.symm a2) hI), Grown.cons (ne_cons (Nat.ne_of_lt l.1) (allLt_ne l.2.2.2.2.2.2)) (Grown.cons a6 Grown.refl)⟩
  revert p hp; walk_at "my_sub"
theorem sub_texts {vs : List Value} {xs : List Str} (h : StrsAre vs xs) (hs : Short xs) : ∀ {ys : List Value}, (∀ v ∈ ys, v ∈ vs) → ∃ zs, StrsAre ys zs ∧ Short zs ∧ zs.length = ys.length
  | [], _ => ⟨[], .nil, (fun _ h => nomatch h), rfl⟩
  | v :: r, k => by
    refine gG ?_
    intro Pz kz
    obtain ⟨zs, h1, h2, h3⟩ := sub_texts h hs (ys := r) fun u hu => k u (.tail _ hu)
    refine kz ?_
    clear kz
    obtain ⟨i, hi⟩ := List.getElem?_of_mem (k v (.head _))
    refine gG ?_
    intro Pz kz
    obtain ⟨x, t, rfl, e⟩ := strs_get h i v hi
    refine kz ?_
    clear kz
    exact ⟨x :: zs, .cons _ _ h1, fun z hz => by
      rcases List.mem_cons.mp hz with rfl | hz
      · exact hs _ (List.mem_of_getElem? e)
      · exact h2 z hz, by simp [h3]⟩
theorem drawnE {h₀ h : Heap} {L td src cs rw pk : Addr} {oS oC oR oP : Obj} {K : Led} (N : News h₀ L h ((td, listO [] 0) :: (src, oS) :: (cs, oC) :: (rw, oR) :: (pk, oP) :: K)) (l : src < td ∧ cs < td ∧ rw < td ∧ pk < td ∧ AllLt td K) (DK : Dst src cs rw pk K) :
    ∃ t, t = td ∧ News h₀ L h ((src, oS) :: (rw, oR) :: (td, listO [] 0) :: (cs, oC) :: (pk, oP) :: K) ∧ Grown K K ∧ (@Ne Nat td src) ∧ (@Ne Nat td rw) ∧ (@Ne Nat td cs ∧ @Ne Nat td pk) ∧ ∀ p ∈ K, p.1 ≠ td :=
  ⟨td, rfl, News.sub N fun p hp => by
    revert p hp; walk_at "my_sub", Grown.refl, Nat.ne_of_gt l.1, Nat.ne_of_gt l.2.2.1, ⟨Nat.ne_of_gt l.2.1, Nat.ne_of_gt l.2.2.2.1⟩, allLt_ne l.2.2.2.2⟩
local macro_rules | `(tactic| walk_at "subscriptTail Name Slice ref ref") => `(tactic| (k_here; (with_reducible show wpAny _ _ (subscriptTail _ (PySem.Expr.Slice _ _ none _) (Value.ref _) (Value.ref _)) _ _ _); k_dflt (refine' kmk_slice ?F ?N ?l ?p ?q ?_ ?s ?t ?z; (case F => k_asm); (case N => k_asm); (case l => exact isListN (by k_asm) (by k_mem)); (case p => kmk_part); (case q => kmk_part); (case s => with_unfolding_all rfl); (case t => kmk_pure); (case z => (rw [List.size_toArray]; refine line_small ?_; first | omega | (simp only [List.length_cons, List.length_nil]; omega)))); intro D' h' F' N' l1; rw [kms_pick_eq] at N'))
local macro_rules | `(tactic| walk_at "call type:range") => `(tactic| (k_here; k_dflt (refine range1_rows (by k_asm) (by k_asm) ?_); intro h' tk' t1 u1 v1 hr' F' N' K'))
local macro_rules | `(tactic| walk_at "eval ListComp") => `(tactic| (k_here; (with_reducible show wpAny _ _ (eval (Expr.ListComp _ [Comprehension.mk _ (Expr.Call (Expr.Name "range" _) _ _ _) [] _] _ _) _) _ _ _); k_dflt (refine evalCompR (by k_asm) (by with_unfolding_all rfl) (by decide) (by rfl) (by decide) (by rfl) ?_)))
local macro_rules | `(tactic| walk_at "compareOp NotEq ref ref") => `(tactic| (k_here; k_dflt (refine neNil (by k_asm) (by k_mem) (by k_mem) (by (dsimp +zetaDelta only [Around.deeper, Around.in1]; omega)) ?_)))
local macro_rules | `(tactic| walk_at "call builtin:list.pop") => `(tactic| (k_here; (with_reducible show wpAny _ _ (call (Value.builtin _) [Value.ref _, Value.int _ _]) _ _ _); k_dflt (refine' popIdx ?pxF ?pxN ?pxa ?pxb ?pxz ?pxU ?_; (case pxF => k_asm); (case pxN => k_asm); (case pxU => k_upd); (case pxa => assumption); (case pxb => assumption); (case pxz => assumption)); intro h' F' N'; (try dsimp only [List.nil_append, List.cons_append] at N')))
local macro_rules | `(tactic| walk_at "exec If") => `(tactic| (k_here; (with_reducible show wpAny _ _ (exec (Stmt.If (Expr.Compare (Expr.Call _ _ _ _) _ _ _) _ _ _) _) _ _ _); (fail_if_success (with_reducible show wpAny _ _ _ (Keep _) _ _)); refine halt ?_))
local macro_rules | `(tactic| walk_at "exec Assign cons IfExp") => `(tactic| (k_here; (fail_if_success (with_reducible show wpAny _ _ _ (Keep _) _ _)); refine halt ?_))
local macro_rules | `(tactic| walk_at "exec If BoolOp") => `(tactic| (k_here; (fail_if_success (with_reducible show wpAny _ _ _ (Keep _) _ _)); refine halt ?_))
local macro_rules | `(tactic| walk_at "exec If") => `(tactic| (k_here; (with_reducible show wpAny _ _ (exec (Stmt.If (Expr.BoolOp _ _ _) _ _ _) _) _ _ _); (fail_if_success (with_reducible show wpAny _ _ _ (Keep _) _ _)); refine halt ?_))
structure RowsOk (rows : List Row) : Prop where
  len : rows.length ≤ 7
  imps : ∀ r ∈ rows, r.2.length ≤ 7
  nams : ∀ r ∈ rows, r.1.length ≤ 100
local macro_rules | `(tactic| walk_at "call ref") => `(tactic| (k_here; (with_reducible show wpAny _ _ (call (Value.ref 219) _) _ _ _); refine halt ?_))
local macro_rules | `(tactic| walk_at "call ref") => `(tactic| (k_here; (with_reducible show wpAny _ _ (call (Value.ref 226) _) _ _ _); refine halt ?_))
inductive DJ1 (src LF lf pk : Addr) (oc1 : Obj) (R1 : Led) (M0 : Str → Option Value) (i : Nat) (m : Str → Option Value) (nw : Led) : Prop where
  | mk (x2 : Int) (y2 : Int) (t2 : Tok) (u2 : Tok) (n2 : Nat) (lvs : List Value) (nl : Nat) (lxs : List Str) (pvs : List Value) (np : Nat) (pxs : List Str) (u : Option Value) (h1_ : nw = (src, srcO x2 y2 t2 u2 n2) :: (LF + 1 + 1, oc1) :: (lf, listO lvs nl) :: (pk, listO pvs np) :: R1) (h2_ : m = setM M0 (Str.ofString "turn") u) (h3_ : SrcOk x2 y2) (h4_ : StrsAre lvs lxs) (h5_ : Short lxs) (h6_ : StrsAre pvs pxs) (h7_ : Short pxs) (h8_ : pxs.length + lxs.length ≤ 6) (h9_ : 0 < pxs.length ∨ (i = 0 ∧ lxs ≠ [])) : DJ1 src LF lf pk oc1 R1 M0 i m nw
inductive DJ2 (src LF rw pk : Addr) (pv : List Value) (np' : Nat) (R1 : Led) (M2 : Str → Option Value) (i : Nat) (m : Str → Option Value) (nw : Led) : Prop where
  | mk (x : Int) (y : Int) (t : Tok) (u : Tok) (n : Nat) (oc : Obj) (rvs : List Value) (nr : Nat) (rows : List Row) (K : Led) (u1 : Option Value) (h1_ : nw = (src, srcO x y t u n) :: (LF + 1 + 1, oc) :: (rw, listO rvs nr) :: (pk, listO pv np') :: K) (h2_ : m = setM M2 (Str.ofString "at") u1) (h3_ : SrcOk x y) (h4_ : ∃ c, oc.data = .cell c) (h5_ : Grown R1 K) (h6_ : Dst src (LF + 1 + 1) rw pk K) (h7_ : Each (RowIn K) rvs rows) (h8_ : rows.length = i) (h9_ : ∀ r ∈ rows, r.2.length ≤ 7 ∧ r.1.length ≤ 100) : DJ2 src LF rw pk pv np' R1 M2 i m nw
inductive DJ3 (src LF rw td pk : Addr) (oc : Obj) (pv : List Value) (np' : Nat) (K : Led) (rows : List Row) (M3 : Str → Option Value) (n : Nat) (m : Str → Option Value) (nw : Led) : Prop where
  | mk (x : Int) (y : Int) (t : Tok) (u : Tok) (k : Nat) (rvs : List Value) (nr : Nat) (rs : List Row) (tvs : List Value) (nt : Nat) (ts : List Row) (h1_ : nw = (src, srcO x y t u k) :: (rw, listO rvs nr) :: (td, listO tvs nt) :: (LF + 1 + 1, oc) :: (pk, listO pv np') :: K) (h2_ : m = M3) (h3_ : SrcOk x y) (h4_ : Each (RowIn K) rvs rs) (h5_ : Each (RowIn K) tvs ts) (h6_ : rs.length = n) (h7_ : rs.length + ts.length = rows.length) (h8_ : ∀ r ∈ rs, r ∈ rows) (h9_ : ∀ r ∈ ts, r ∈ rows) : DJ3 src LF rw td pk oc pv np' K rows M3 n m nw
inductive DP1 (gs : Array GenState) (dr : Drawn) (os : OsState) (gB : Heap) (src LF pk : Addr) (oc1 : Obj) (R1 : Led) (M1 : Str → Option Value) (f : Flow) (s' : Shared) : Prop where
  | mk (h1_ : f = Flow.next) (h : Heap) (tk : Tok) (x : Int) (y : Int) (t : Tok) (u : Tok) (n : Nat) (pv : List Value) (np : Nat) (px : List Str) (h2_ : s' = ⟨h, gs, dr, tk, os⟩) (h3_ : Fr gB LF h M1) (h4_ : News gB LF h ((src, srcO x y t u n) :: (LF + 1 + 1, oc1) :: (pk, listO pv np) :: R1)) (h5_ : SrcOk x y) (h6_ : StrsAre pv px) (h7_ : Short px) (h8_ : px.length ≤ 7) (h9_ : 0 < px.length) : DP1 gs dr os gB src LF pk oc1 R1 M1 f s'
inductive DP2 (gs : Array GenState) (dr : Drawn) (os : OsState) (gB : Heap) (src LF rw pk I : Addr) (oI : Obj) (x6 y6 : Int) (t6 u6 : Tok) (n6 : Nat) (rvs : List Value) (nr : Nat) (pv : List Value) (np' : Nat) (K : Led) (Mt : Str → Option Value) (f : Flow) (s' : Shared) : Prop where
  | mk (h1_ : f = Flow.next) (h : Heap) (tk : Tok) (oc' : Obj) (sl : Addr) (svs : List Value) (k : Nat) (xs : List Str) (K' : Led) (h2_ : s' = ⟨h, gs, dr, tk, os⟩) (h3_ : Fr gB LF h Mt) (h4_ : News gB LF h ((I, oI) :: (src, srcO x6 y6 t6 u6 n6) :: (LF + 1 + 1, oc') :: (rw, listO rvs nr) :: (pk, listO pv np') :: K')) (h5_ : oc'.data = .cell (some (.ref sl))) (h6_ : (sl, listO svs k) ∈ ((pk, listO pv np') :: K' : Led)) (h7_ : StrsAre svs xs) (h8_ : Short xs) (h9_ : xs.length ≤ 7) (h10_ : Grown K K') (h11_ : Dst src (LF + 1 + 1) rw pk K') (h12_ : ∀ p ∈ K', p.1 ≠ I) : DP2 gs dr os gB src LF rw pk I oI x6 y6 t6 u6 n6 rvs nr pv np' K Mt f s'
inductive DP3 (gs : Array GenState) (dr : Drawn) (os : OsState) (gB : Heap) (src LF rw pk I : Addr) (oI : Obj) (rvs : List Value) (nr : Nat) (pv : List Value) (np' : Nat) (K : Led) (Mt : Str → Option Value) (f : Flow) (s' : Shared) : Prop where
  | mk (h1_ : f = Flow.next) (h : Heap) (tk : Tok) (x : Int) (y : Int) (t : Tok) (u : Tok) (n : Nat) (oc' : Obj) (sl : Addr) (svs : List Value) (k : Nat) (xs : List Str) (K' : Led) (h2_ : s' = ⟨h, gs, dr, tk, os⟩) (h3_ : Fr gB LF h Mt) (h4_ : News gB LF h ((I, oI) :: (src, srcO x y t u n) :: (LF + 1 + 1, oc') :: (rw, listO rvs nr) :: (pk, listO pv np') :: K')) (h5_ : SrcOk x y) (h6_ : oc'.data = .cell (some (.ref sl))) (h7_ : (sl, listO svs k) ∈ K') (h8_ : StrsAre svs xs) (h9_ : Short xs) (h10_ : xs.length ≤ 9) (h11_ : 0 < xs.length) (h12_ : Grown K K') (h13_ : Dst src (LF + 1 + 1) rw pk K') (h14_ : ∀ p ∈ K', p.1 ≠ I) : DP3 gs dr os gB src LF rw pk I oI rvs nr pv np' K Mt f s'
inductive DP4 (gs : Array GenState) (dr : Drawn) (os : OsState) (gB : Heap) (src LF rw pk I : Addr) (oI : Obj) (x7 y7 : Int) (t7 u7 : Tok) (n7 : Nat) (rvs : List Value) (nr : Nat) (pv : List Value) (np' : Nat) (K : Led) (Mt : Str → Option Value) (f : Flow) (s' : Shared) : Prop where
  | mk (h1_ : f = Flow.next) (h : Heap) (tk : Tok) (oc' : Obj) (sl : Addr) (svs : List Value) (k : Nat) (xs : List Str) (K' : Led) (h2_ : s' = ⟨h, gs, dr, tk, os⟩) (h3_ : Fr gB LF h Mt) (h4_ : News gB LF h ((I, oI) :: (src, srcO x7 y7 t7 u7 n7) :: (LF + 1 + 1, oc') :: (rw, listO rvs nr) :: (pk, listO pv np') :: K')) (h5_ : oc'.data = .cell (some (.ref sl))) (h6_ : (sl, listO svs k) ∈ K') (h7_ : StrsAre svs xs) (h8_ : Short xs) (h9_ : xs.length ≤ 9) (h10_ : 0 < xs.length) (h11_ : Grown K K') (h12_ : Dst src (LF + 1 + 1) rw pk K') (h13_ : ∀ p ∈ K', p.1 ≠ I) : DP4 gs dr os gB src LF rw pk I oI x7 y7 t7 u7 n7 rvs nr pv np' K Mt f s'
inductive DC1 (src LF rw pk I : Addr) (oI oc4 : Obj) (rvs : List Value) (nr : Nat) (pv : List Value) (np' : Nat) (K4 : Led) (svs4 : List Value) (j : Nat) (ys : List Value) (nw : Led) : Prop where
  | mk (x : Int) (y : Int) (t : Tok) (u : Tok) (n : Nat) (h1_ : SrcOk x y) (h2_ : nw = (src, srcO x y t u n) :: (I, oI) :: (LF + 1 + 1, oc4) :: (rw, listO rvs nr) :: (pk, listO pv np') :: K4) (h3_ : ys.length = j) (h4_ : ∀ v ∈ ys, v ∈ svs4) : DC1 src LF rw pk I oI oc4 rvs nr pv np' K4 svs4 j ys nw
inductive DrwP (R : Led) (v : Value) (news' : Led) : Prop where
  | mk (rl : Addr) (rvs : List Value) (k : Nat) (rows : List Row) (h1_ : v = .ref rl) (h2_ : (rl, listO rvs k) ∈ news') (h3_ : Each (RowIn news') rvs rows) (h4_ : RowsOk rows) (h5_ : Grown R news') : DrwP R v news'
set_option maxHeartbeats 4000000 in
theorem drawn_spec (w : World) (src : Addr) (x y : Int) (t u : Tok) (n : Nat) (R : Led) (hR : ∀ p ∈ R, p.1 ≠ src) (S : SrcOk x y) :
    CallSpec w 231 [.ref src] 4 noneH ((src, srcO x y t u n) :: R) (DrwP R) := by
  refine CallSpec.of ?_
  intro p loose mean mg mb hh dp un gd env outer A₀ base h₀ L m hpZ gsZ drZ tkZ osZ Q E B F X N T hf hk hH hdp hun hret
  (try k_fold)
  have hH' : hh = none := hH
  subst hH'
  clear hH
  have hH : HOk none h₀ := .inl rfl
  refine wpAny_call ?_
  refine' code_defC ?k1 ?k2 ?k3 ?k4 ?k5 ?kA ?kF ?kK ?k6 ?k7 ?k8 ?k9 ?kB ?kD ?_ ?c2 ?c3 ?c4
  case kA => exact rfl
  case kF => assumption
  case kK => assumption
  case k1 => k_asm
  case k2 => k_asm
  case k3 => k_asm
  case k4 => k_asm
  case k5 => k_asm
  case k6 => k_is
  case k7 => k_is
  case k8 => walk_at "my_room"
  case k9 => exact BindsTo.of_eq rfl
  case kB => exact rfl
  case kD => decide +kernel
  case c2 => exact rfl
  case c3 => exact rfl
  case c4 => exact rfl
  intro gB LF hF tkF cellsF FG FF NF YF BF XF TF lF
  dsimp only
  k_fold
  refine letX ?_
  intro Mz ez Az
  refine letF FF ?_
  clear FF
  intro mF FF
  have hHg := HOk.keeps hH (Fr.keep FG)
  refine gG ?_
  intro Pz kz
  obtain ⟨oc1, oc2, hE, dc1, dc2⟩ := CellsAre.two YF
  refine kz ?_
  clear kz
  subst hE
  clear YF
  simp only [List.cons_append, List.nil_append] at NF
  k_steps
  refine Halt.go ?_
  rename (News gB LF _ _) => N1
  have oR1 : ∀ p ∈ R, p.1 ≠ LF + 1 + 1 := fun p hp e => lt_off2 lF p (.tail _ hp) (by rw [e]; exact .head _)
  have oR2 : ∀ p ∈ R, p.1 ≠ LF + 1 := fun p hp e => lt_off2 lF p (.tail _ hp) (by rw [e]; exact .tail _ (.head _))
  have os := lt_off2 lF _ (.head _)
  simp only [List.mem_cons, List.not_mem_nil, or_false, not_or] at os
  refine gG ?_
  intro Pz kz
  obtain ⟨R1, hR1, hS1, N2, hi1, hm1, hc2, hgR⟩ := drawn1 N1 (by assumption) (by assumption) hR os.1 os.2 (Nat.ne_of_lt (Nat.lt_succ_self _)) oR1 oR2
  refine kz ?_
  clear kz
  clear N1
  have hRs : ∀ p ∈ ((LF + 1 + 1, oc1) :: R1 : Led), p.1 ≠ src := ne_cons (Ne.symm os.1) hR1
  k_dflt walk_at "my_use"
  case kS => exact one_specH w src _ x y t u n 0 _ ((LF + 1 + 1, oc1) :: R1) hRs S (by show (0 : Nat) < 4; decide) (by show (4 : Nat) < 100; decide) (.tail _ hi1)
  walk_at "my_used"
  rename (OnePH ..) => hP
  refine gG ?_
  intro Pz kz
  obtain ⟨x1, y1, t1, u1, n1, hv, S1, rfl⟩ := hP
  refine kz ?_
  clear kz
  refine gG ?_
  intro Pz kz
  obtain ⟨c, tc, rfl, c0, c1⟩ := ints01 hv
  refine kz ?_
  clear kz
  have hm1' : (_, listO [_, _, _, _, _, _] 0) ∈ R1 := hm1
  k_steps
  rename (News gB LF _ _) => N3
  rename (Fr gB LF _ _) => F3
  refine gG ?_
  intro Pz kz
  obtain ⟨lvs, lf, pk, lxs, rfl, rfl, rfl, hlx, hls, hll, hle, N4, DS⟩ := drawn2 N3 (by assumption) (by assumption) c0 c1 hRs hS1
  refine kz ?_
  clear kz
  clear N3
  have nd1 := neNat DS.a
  have nd1_s := Ne.symm nd1
  have nd2 := neNat DS.b
  have nd2_s := Ne.symm nd2
  have nd3 := neNat DS.c
  have nd3_s := Ne.symm nd3
  have nd4 := neNat DS.d
  have nd4_s := Ne.symm nd4
  have nd5 := neNat DS.e
  have nd5_s := Ne.symm nd5
  have nd6 := neNat DS.f
  have nd6_s := Ne.symm nd6
  refine gG ?_
  intro Pz kz
  obtain ⟨_, _, _, _, _, _, rs1, rs2, rs3, rs4⟩ := id DS
  refine kz ?_
  clear kz
  refine Halt.go ?_
  k_dflt walk_at "my_use"
  case kS => exact take_specH w src x1 y1 t1 u1 n1 _ _ _ DS.offS (by decide) (by decide) S1
  walk_at "my_used"
  rename (TakPH ..) => hP
  refine gG ?_
  intro Pz kz
  obtain ⟨d, x2, y2, t2, u2, n2, td, rfl, d0, d1, S2, rfl⟩ := hP
  refine kz ?_
  clear kz
  k_steps
  refine Halt.go ?_
  rename (IsRange _ _ _ _ _ _ _ _) => hr
  rename (News gB LF _ _) => N5
  rename (Fr gB LF _ _) => F5
  obtain ⟨M0, hM0, F5'⟩ := frOut F5
  refine for_range (n := (1 + d).toNat) (J := DJ1 src LF lf pk oc1 R1 M0) (by rfl) F5' N5 hr (small_one (by omega) (by omega) (by omega) (by omega)) (by rw [rangeSize_nat]; omega)
    ⟨x2, y2, t2, u2, n2, _, _, lxs, [], _, [], _, rfl, (setM_self _ _).symm, S2, hlx, hls, .nil, (fun _ h => nomatch h), by simpa using hll, .inr ⟨rfl, hle⟩⟩ ?_ ?_
  · intro i m₁ nw I oI h tk t hin hJ hnI F6 N6
    (try k_fold)
    refine gG ?_
    intro Pz kz
    obtain ⟨x3, y3, t3, u3, n3, lv, nl, lx, pv, np, px, u, rfl, rfl, S3, hl1, hl2, hp1, hp2, hp3, hor⟩ := hJ
    refine kz ?_
    clear kz
    have F7 : Fr gB LF h _ := F6
    have N7 : News gB LF h _ := N6
    clear F6 N6
    subst hM0
    have hlvl := strs_len hl1
    have hpvl := strs_len hp1
    have i1 := neNat (hnI _ (.head _))
    have i2 := neNat (hnI _ (.tail _ (.head _)))
    have i3 := neNat (hnI _ (.tail _ (.tail _ (.head _))))
    have i4 := neNat (hnI _ (.tail _ (.tail _ (.tail _ (.head _)))))
    have i5 : ∀ p ∈ R1, p.1 ≠ I := fun p hp => hnI p (.tail _ (.tail _ (.tail _ (.tail _ hp))))
    dsimp only at i1 i2 i3 i4
    have i1_s := Ne.symm i1
    have i2_s := Ne.symm i2
    have i3_s := Ne.symm i3
    have i4_s := Ne.symm i4
    k_steps
    · rename (lv = []) => hnil
      subst hnil
      cases hl1
      rename (News gB LF _ _) => N8
      rename (Fr gB LF _ _) => F8
      exact TurnEnd.intro ((src, srcO x3 y3 t3 u3 n3) :: (LF + 1 + 1, oc1) :: (lf, listO [] nl) :: (pk, listO pv np) :: R1) F8 N8 (.tail _ (.head _)) (fun p hp => .tail _ (.tail _ hp)) hnI
        ⟨x3, y3, t3, u3, n3, [], nl, [], pv, np, px, _, rfl, setM1 _ _ _ _, S3, .nil, hl2, hp1, hp2, hp3, .inl (hor.elim id fun q => absurd rfl q.2)⟩
    · rename (¬ lv = []) => hne
      have hlp : 0 < lv.length := List.length_pos_iff.mpr hne
      rename (News gB LF _ _) => N8
      rename (Fr gB LF _ _) => F8
      have N9 := toFront (src := src) (o := srcO x3 y3 t3 u3 n3) (R := (I, oI) :: (LF + 1 + 1, oc1) :: (lf, listO lv nl) :: (pk, listO pv np) :: R1) N8 (by k_mem) (fun p hp => by
        revert p hp; walk_at "my_sub")
      clear N8
      refine Halt.go ?_
      k_dflt walk_at "my_use"
      case kS => exact take_specH w src x3 y3 t3 u3 n3 _ _ _ (ne_cons (Ne.symm i1) DS.offS) (by show (0 : Int) < ((lv.length : Nat) : Int); omega) (by show ((lv.length : Nat) : Int) < 100; omega) S3
      walk_at "my_used"
      rename (TakPH ..) => hP
      refine gG ?_
      intro Pz kz
      obtain ⟨e, x4, y4, t4, u4, n4, te, rfl, e0, e1, S4, rfl⟩ := hP
      refine kz ?_
      clear kz
      refine gG ?_
      intro Pz kz
      obtain ⟨p, v, q, rfl, hpl⟩ := cut_at e0 e1
      refine kz ?_
      clear kz
      refine gG ?_
      intro Pz kz
      obtain ⟨ax, xx, bx, tx, rfl, rfl, ha, hb⟩ := strs_cut hl1
      refine kz ?_
      clear kz
      have hpq : (p ++ Value.str xx tx :: q).length ≤ 10000000 := by rw [hlvl]; omega
      have hab : (ax ++ xx :: bx).length = (ax ++ bx).length + 1 := by simp only [List.length_append, List.length_cons]; omega
      k_steps
      rename (News gB LF _ _) => NE
      rename (Fr gB LF _ _) => FE
      have hxx : xx.length ≤ 100 := hl2 xx (by simp)
      refine TurnEnd.intro ((src, srcO x4 y4 t4 u4 n4) :: (LF + 1 + 1, oc1) :: (lf, listO (p ++ q) (nl + 1)) :: (pk, listO (pv ++ [Value.str xx tx]) (np + 1)) :: R1) FE NE (.tail _ (.head _)) (fun p hp => ?_) (ne_cons i1 (ne_cons i2 (ne_cons i3 (ne_cons i4 i5))))
        ⟨x4, y4, t4, u4, n4, _, _, ax ++ bx, _, _, px ++ [xx], _, rfl, setM1 _ _ _ _, S4, strsCat ha hb, fun z hz => hl2 z ?_, strsCat hp1 (.cons _ _ .nil), fun z hz => ?_, ?_, .inl (by simp)⟩
      · revert p hp; walk_at "my_sub"
      · rcases List.mem_append.mp hz with h | h <;> simp [h]
      · rcases List.mem_append.mp hz with h | h
        · exact hp2 z h
        · rw [List.mem_singleton.mp h]; exact hxx
      · simp only [List.length_append, List.length_cons, List.length_nil] at hp3 ⊢; omega
  intro m₁ nw h6 tk6 hJz F8 N8
  (try k_fold)
  refine gG ?_
  intro Pz kz
  obtain ⟨x3, y3, t3, u3, n3, lv, nl, lx, pv, np, px, u, rfl, rfl, S3, hl1, hl2, hp1, hp2, hp3, hor⟩ := hJz
  refine kz ?_
  clear kz
  have FB : Fr gB LF h6 _ := F8
  have NB : News gB LF h6 _ := N8
  clear F8 N8
  subst hM0
  have hp0 : 0 < px.length := hor.elim id fun q => by omega
  refine gG ?_
  intro Pz kz
  obtain ⟨pv0, pvr, px0, pxr, rfl, rfl, hpx0⟩ : ∃ v r x xr, pv = v :: r ∧ px = x :: xr ∧ ∃ t, v = Value.str x t := by
    cases hp1 with
    | nil => simp at hp0
    | cons x t r => exact ⟨_, _, _, _, rfl, rfl, t, rfl⟩
  refine kz ?_
  clear kz
  have NC := News.sub (N' := (src, srcO x3 y3 t3 u3 n3) :: (LF + 1 + 1, oc1) :: (pk, listO (pv0 :: pvr) np) :: R1) NB (fun p hp => by
    revert p hp; walk_at "my_sub")
  clear NB
  have hpvl := strs_len hp1
  k_steps
  refine Halt.go ?_
  obtain ⟨M1, hM1, FB'⟩ := frOut FB
  refine cutS (DP1 gsZ drZ osZ gB src LF pk oc1 R1 M1) ?_ ?_
  · subst hM1
    have rsC : ∀ p ∈ ((LF + 1 + 1, oc1) :: (pk, listO (pv0 :: pvr) np) :: R1 : Led), p.1 ≠ src := ne_cons DS.a (ne_cons DS.c rs1)
    have hp3' := hp3
    rw [List.length_cons] at hp3'
    rw [List.length_cons, List.length_cons] at hpvl
    have hpz : (pv0 :: pvr).length ≤ 16777216 := by rw [List.length_cons]; omega
    have hpz1 : (pv0 :: pvr).length ≤ 10000000 := by rw [List.length_cons]; omega
    have hix : lidx (pv0 :: pvr) 0 = some pv0 := rfl
    obtain ⟨t00, rfl⟩ := hpx0
    k_steps
    refine Halt.go ?_
    k_dflt walk_at "my_use"
    case kS => exact take_specH w src x3 y3 t3 u3 n3 _ _ _ rsC (by decide) (by decide) S3
    walk_at "my_used"
    rename (TakPH ..) => hP
    refine gG ?_
    intro Pz kz
    obtain ⟨e, x4, y4, t4, u4, n4, te, rfl, e0, e1, S4, rfl⟩ := hP
    refine kz ?_
    clear kz
    k_steps
    · rename (News gB LF _ _) => NE
      rename (Fr gB LF _ _) => FE
      exact Keep.mk ⟨rfl, _, _, x4, y4, t4, u4, n4, _, _, _, rfl, FE, NE, S4, strsCat hp1 (.cons px0 t00 .nil), fun z hz => (List.mem_append.mp hz).elim (hp2 z) fun q => by rw [List.mem_singleton.mp q]; exact hp2 _ (.head _), by simp only [List.length_append, List.length_cons, List.length_nil]; omega, by simp⟩
    · rename (News gB LF _ _) => NE
      rename (Fr gB LF _ _) => FE
      exact Keep.mk ⟨rfl, _, _, x4, y4, t4, u4, n4, _, _, _, rfl, FE, NE, S4, hp1, hp2, by simp only [List.length_cons]; omega, by simp⟩
  · intro f s' hJz
    (try k_fold)
    refine gG ?_
    intro Pz kz
    obtain ⟨rfl, h7, tk7, x4, y4, t4, u4, n4, pv, np', px, rfl, F9, N9, S4, hv1, hv2, hv3, hv4⟩ := hJz
    refine kz ?_
    clear kz
    subst hM1
    clear hp1 hp2 hp3 hpvl hor hp0 hpx0 NC FB FB'
    (try dsimp only)
    have rsC : ∀ p ∈ ((LF + 1 + 1, oc1) :: (pk, listO pv np') :: R1 : Led), p.1 ≠ src := ne_cons DS.a (ne_cons DS.c rs1)
    have hpvl := strs_len hv1
    have hpz : pv.length ≤ 16777216 := by omega
    k_steps
    refine Halt.go ?_
    k_dflt walk_at "my_use"
    case kS => exact take_specH w src x4 y4 t4 u4 n4 _ _ _ rsC (by decide) (by decide) S4
    walk_at "my_used"
    rename (TakPH ..) => hP
    refine gG ?_
    intro Pz kz
    obtain ⟨e, x5, y5, t5, u5, n5, te, rfl, e0, e1, S5, rfl⟩ := hP
    refine kz ?_
    clear kz
    k_steps
    refine Halt.go ?_
    rename (IsRange _ _ _ _ _ _ _ _) => hr2
    rename (News gB LF _ _) => N5
    rename (Fr gB LF _ _) => F5
    refine gG ?_
    intro Pz kz
    obtain ⟨rw, rfl, N6, DR⟩ := drawn3 N5 (by assumption) DS
    refine kz ?_
    clear kz
    clear N5
    obtain ⟨M2, hM2, F6⟩ := frOut F5
    have hnc1 : ∃ c, oc1.data = .cell c := ⟨_, dc1⟩
    refine for_range (n := pv.length) (J := DJ2 src LF rw pk pv np' R1 M2) (by rfl) F6 N6 hr2 (small_one (by omega) (by omega) (by omega) (by omega)) (by rw [rangeSize_nat]; omega)
      ⟨x5, y5, t5, u5, n5, oc1, [], 0, [], R1, _, rfl, (setM_self _ _).symm, S5, hnc1, Grown.refl, DR, .nil, rfl, fun _ h => nomatch h⟩ ?_ ?_
    · intro i m₁ nw I oI h tk tI hin hJ hnI F7 N7
      (try k_fold)
      refine gG ?_
      intro Pz kz
      obtain ⟨x6, y6, t6, u6, n6, oc, rvs, nr, rows, K, u1, rfl, rfl, S6, ⟨c0', hoc⟩, hgK, DK, hEr, hrl, hrs⟩ := hJ
      refine kz ?_
      clear kz
      have F8 : Fr gB LF h _ := F7
      have N8 : News gB LF h _ := N7
      clear F7 N7
      subst hM2
      have i1 := neNat (hnI _ (.head _))
      have i2 := neNat (hnI _ (.tail _ (.head _)))
      have i3 := neNat (hnI _ (.tail _ (.tail _ (.head _))))
      have i4 := neNat (hnI _ (.tail _ (.tail _ (.tail _ (.head _)))))
      have i5 : ∀ p ∈ K, p.1 ≠ I := fun p hp => hnI p (.tail _ (.tail _ (.tail _ (.tail _ hp))))
      dsimp only at i1 i2 i3 i4
      have i1_s := Ne.symm i1
      have i2_s := Ne.symm i2
      have i3_s := Ne.symm i3
      have i4_s := Ne.symm i4
      have md1 := neNat DK.b
      have md1_s := Ne.symm md1
      have md2 := neNat DK.d
      have md2_s := Ne.symm md2
      have md3 := neNat DK.f
      have md3_s := Ne.symm md3
      refine gG ?_
      intro Pz kz
      obtain ⟨_, _, _, _, _, _, ks1, ks2, ks3, ks4⟩ := id DK
      refine kz ?_
      clear kz
      k_steps
      refine Halt.go ?_
      obtain ⟨Mt, hMt, F9⟩ := frOut F8
      refine cutS (DP2 gsZ drZ osZ gB src LF rw pk I oI x6 y6 t6 u6 n6 rvs nr pv np' K Mt) ?_ ?_
      · subst hMt
        k_steps
        · rename (News gB LF _ _) => NS
          rename (Fr gB LF _ _) => FS
          refine gG ?_
          intro Pz kz
          obtain ⟨D, rfl, NS, lD⟩ := headOf NS (by assumption)
          refine kz ?_
          clear kz
          refine gG ?_
          intro Pz kz
          obtain ⟨xs0, hx1, hx2, hx3⟩ := pick_texts hv1 hv2 none (some (0 + (i : Int)))
          refine kz ?_
          clear kz
          have hxl := strs_len hx1
          have hD0 : ∀ p ∈ K, p.1 ≠ D := fun p hp => Nat.ne_of_lt (lD p (by simp [hp]))
          have hX : ∀ p ∈ ((D, listO (kms_pick pv.toArray.toList none (some (0 + (i : Int)))) 0) :: K : Led), p.1 ∉ ([I, src, LF + 1 + 1, rw, pk] : List Addr) :=
            off5 (ne_cons (Nat.ne_of_gt (lD _ (.head _))) i5) (ne_cons (Nat.ne_of_gt (lD _ (.tail _ (.head _)))) ks1) (ne_cons (Nat.ne_of_gt (lD _ (.tail _ (.tail _ (.head _))))) ks2) (ne_cons (Nat.ne_of_gt (lD _ (.tail _ (.tail _ (.tail _ (.head _)))))) ks3) (ne_cons (Nat.ne_of_gt (lD _ (.tail _ (.tail _ (.tail _ (.tail _ (.head _))))))) ks4)
          have NT := News.sub (N' := (I, oI) :: (src, srcO x6 y6 t6 u6 n6) :: (LF + 1 + 1, oc) :: (rw, listO rvs nr) :: (pk, listO pv np') :: (D, listO (kms_pick pv.toArray.toList none (some (0 + (i : Int)))) 0) :: K) NS (fun p hp => by
            revert p hp; walk_at "my_sub")
          clear NS
          refine CSrcT.mk hHg FS NT (.tail _ (.tail _ (.tail _ (.tail _ (.tail _ (.head _)))))) (line_small (by rw [hxl]; omega)) (fun j ys nw => Grown ([(I, oI), (src, srcO x6 y6 t6 u6 n6), (LF + 1 + 1, oc), (rw, listO rvs nr), (pk, listO pv np')] ++ (D, listO (kms_pick pv.toArray.toList none (some (0 + (i : Int)))) 0) :: K) nw ∧ Each (fun v x => ∃ t, v = Value.str x t) ys ((xs0.take j).filter fun o => o != Str.ofString "Main")) ⟨Grown.refl, by rw [List.take_zero]; exact .nil⟩ (fun j ys nw z => z.1.1 _ (.tail _ (.tail _ (.tail _ (.tail _ (.tail _ (.head _))))))) ?_ ?_
          · intro j v ys8 nw8 I2 oI2 C oC D8 m₂ h8 tk8 E' hv2' hI8 hC hx2' FE NE off9 ne9
            (try k_fold)
            refine gG ?_
            intro Pz kz
            obtain ⟨o, t, rfl, hxo⟩ := strs_get hx1 j v hv2'
            refine kz ?_
            clear kz
            k_steps
            · exact LCg.CompEnd.intro (by assumption) (by assumption) nw8 (fun _ h => h) off9 trivial ⟨hI8.1, hI8.2.stepT hxo (by assumption) ⟨_, rfl⟩⟩
            · exact LCg.CompEnd.intro (by assumption) (by assumption) nw8 (fun _ h => h) off9 trivial ⟨hI8.1, hI8.2.stepF hxo (by rename (_ = false) => hq; rw [hq]; decide)⟩
          · intro g8 ys8 nw8 hI8
            unfold LCg.FinE
            intro D8 h8 tk8 FE NE o9
            rw [List.take_of_length_le (by rw [hxl]; exact Nat.le_refl _)] at hI8
            have hs8 := hI8.2.strs
            have hgA := Grown.cons (o := LCg.lst ys8) (off1_ne o9) hI8.1
            refine gG ?_
            intro Pz kz
            obtain ⟨X1, NR, gX, offX, memX, newX⟩ := regrow NE hgA hX
            refine kz ?_
            clear kz
            simp only [List.cons_append, List.nil_append] at NR
            have hD8 : (D8, LCg.lst ys8) ∈ X1 := newX _ (.head _) (not_own (newNe' (M := [(I, oI), (src, srcO x6 y6 t6 u6 n6), (LF + 1 + 1, oc), (rw, listO rvs nr), (pk, listO pv np')]) hI8.1 (off1_ne o9)))
            have z1 : ∀ p ∈ X1, p.1 ≠ I := notmem_ne offX (by simp)
            have z2 : ∀ p ∈ X1, p.1 ≠ src := notmem_ne offX (by simp)
            have z3 : ∀ p ∈ X1, p.1 ≠ LF + 1 + 1 := notmem_ne offX (by simp)
            have z4 : ∀ p ∈ X1, p.1 ≠ rw := notmem_ne offX (by simp)
            have z5 : ∀ p ∈ X1, p.1 ≠ pk := notmem_ne offX (by simp)
            have hfl := List.length_filter_le (fun o => o != Str.ofString "Main") xs0
            clear NE hgA NT memX newX
            k_steps
            rename (News gB LF _ _) => NE
            rename (Fr gB LF _ _) => FE
            exact Keep.mk ⟨rfl, _, _, _, D8, ys8, _, _, X1, rfl, FE, NE, by assumption, .tail _ hD8, hs8, fun z hz => hx2 z (List.mem_filter.mp hz).1, by omega, (Grown.cons hD0 Grown.refl).trans gX, DK.to z2 z3 z4 z5, z1⟩
        · rename (News gB LF _ _) => NE
          rename (Fr gB LF _ _) => FE
          exact Keep.mk ⟨rfl, _, _, _, pk, pv, np', px, K, rfl, FE, NE, by assumption, .head _, hv1, hv2, hv3, Grown.refl, DK, i5⟩
      · intro f s' hJz
        (try k_fold)
        refine gG ?_
        intro Pz kz
        obtain ⟨rfl, h8, tk8, oc2', sl, svs, k, xs, K1, rfl, FA, NA, hoc', hsl, hs1, hs2, hs3, hgK1, DK1, hKI⟩ := hJz
        refine kz ?_
        clear kz
        subst hMt
        clear F8 N8 F9
        (try dsimp only)
        refine gG ?_
        intro Pz kz
        obtain ⟨_, _, _, _, _, _, ks1', ks2', ks3', ks4'⟩ := id DK1
        refine kz ?_
        clear kz
        have hsvl := strs_len hs1
        have hcK1 := hgK1.1 _ (hgK.1 _ hc2)
        have NA2 := toFront (src := src) (o := srcO x6 y6 t6 u6 n6) (R := (I, oI) :: (LF + 1 + 1, oc2') :: (rw, listO rvs nr) :: (pk, listO pv np') :: K1) NA (by simp) (fun p hp => by
          revert p hp; walk_at "my_sub")
        clear NA
        have oS1 : ∀ p ∈ ((I, oI) :: (LF + 1 + 1, oc2') :: (rw, listO rvs nr) :: (pk, listO pv np') :: K1 : Led), p.1 ≠ src := ne_cons (Ne.symm i1) DK1.offS
        have hslA : (sl, listO svs k) ∈ ((I, oI) :: (LF + 1 + 1, oc2') :: (rw, listO rvs nr) :: (pk, listO pv np') :: K1 : Led) := .tail _ (.tail _ (.tail _ hsl))
        k_steps
        refine Halt.go ?_
        obtain ⟨Mt, hMt, F9⟩ := frOut FA
        refine cutS (DP3 gsZ drZ osZ gB src LF rw pk I oI rvs nr pv np' K Mt) ?_ ?_
        · subst hMt
          k_steps
          refine Halt.go ?_
          k_dflt walk_at "my_use"
          case kS => exact take_specH w src x6 y6 t6 u6 n6 _ _ _ oS1 (by decide) (by decide) S6
          walk_at "my_used"
          rename (TakPH ..) => hP
          refine gG ?_
          intro Pz kz
          obtain ⟨e3, x7, y7, t7, u7, n7, te3, rfl, e30, e31, S7, rfl⟩ := hP
          refine kz ?_
          clear kz
          have hslB : (sl, listO svs k) ∈ ((src, srcO x7 y7 t7 u7 n7) :: (I, oI) :: (LF + 1 + 1, oc2') :: (rw, listO rvs nr) :: (pk, listO pv np') :: K1 : Led) := .tail _ hslA
          k_steps
          · rename (News gB LF _ _) => NE
            rename (Fr gB LF _ _) => FE
            refine gG ?_
            intro Pz kz
            obtain ⟨D0, rfl, NE', DK2, hI2, hD2⟩ := drawnB NE (by assumption) DK1 hKI
            refine kz ?_
            clear kz
            exact Keep.mk ⟨rfl, _, _, x7, y7, t7, u7, n7, _, D0, _, 0, _, _, rfl, FE, NE', S7, by assumption, .head _, strsCat hs1 (.cons _ _ (.cons _ _ .nil)), shortCat hs2 (by decide +kernel), by simp only [List.length_append, List.length_cons, List.length_nil]; omega, by simp, hgK1.trans (Grown.cons hD2 Grown.refl), DK2, hI2⟩
          · rename (News gB LF _ _) => NE
            rename (Fr gB LF _ _) => FE
            refine gG ?_
            intro Pz kz
            obtain ⟨D0, rfl, NE', DK2, hI2, hD2⟩ := drawnB NE (by assumption) DK1 hKI
            refine kz ?_
            clear kz
            exact Keep.mk ⟨rfl, _, _, x7, y7, t7, u7, n7, _, D0, _, 0, _, _, rfl, FE, NE', S7, by assumption, .head _, strsCat hs1 (.cons _ _ .nil), shortCat hs2 (by decide +kernel), by simp only [List.length_append, List.length_cons, List.length_nil]; omega, by simp, hgK1.trans (Grown.cons hD2 Grown.refl), DK2, hI2⟩
        intro f s' hJz
        (try k_fold)
        refine gG ?_
        intro Pz kz
        obtain ⟨rfl, h9, tk9, x7, y7, t7, u7, n7, oc3, sl3, svs3, k3, xs3, K3, rfl, FC, NC3, S7, hoc3, hsl3, hs31, hs32, hs33, hs34, hgK3, DK3, hKI3⟩ := hJz
        refine kz ?_
        clear kz
        subst hMt
        clear FA NA2 F9
        (try dsimp only)
        refine gG ?_
        intro Pz kz
        obtain ⟨_, _, _, _, _, _, ks1'', ks2'', ks3'', ks4''⟩ := id DK3
        refine kz ?_
        clear kz
        have hcK3 := hgK3.1 _ (hgK.1 _ hc2)
        refine gG ?_
        intro Pz kz
        obtain ⟨xi, ti, hpi, hxi⟩ : ∃ x t, lidx pv (0 + (i : Int)) = some (.str x t) ∧ x ∈ px := by
          have h1 : i < pv.length := hin
          obtain ⟨x, t, e1, e2⟩ := strs_get hv1 i _ (List.getElem?_eq_getElem h1)
          refine ⟨x, t, ?_, List.mem_of_getElem? e2⟩
          rw [Int.zero_add, lidx_nat (List.getElem?_eq_getElem h1), e1]
        refine kz ?_
        clear kz
        k_steps
        refine Halt.go ?_
        obtain ⟨Mt, hMt, F9⟩ := frOut FC
        refine cutS (DP4 gsZ drZ osZ gB src LF rw pk I oI x7 y7 t7 u7 n7 rvs nr pv np' K Mt) ?_ ?_
        · subst hMt
          k_steps
          · rename (News gB LF _ _) => NE
            rename (Fr gB LF _ _) => FE
            refine gG ?_
            intro Pz kz
            obtain ⟨D0, rfl, NE', DK2, hI2, hD2⟩ := drawnC NE (by assumption) DK3 hKI3
            refine kz ?_
            clear kz
            exact Keep.mk ⟨rfl, _, _, _, D0, [_], 0, [Str.ofString "Z"], _, rfl, FE, NE', by assumption, .head _, .cons _ _ .nil, (by intro z hz; rw [List.mem_singleton.mp hz]; decide +kernel), by decide, by decide, hgK3.trans (Grown.cons hD2 Grown.refl), DK2, hI2⟩
          · rename (News gB LF _ _) => NE
            rename (Fr gB LF _ _) => FE
            exact Keep.mk ⟨rfl, _, _, oc3, sl3, svs3, k3, xs3, K3, rfl, FE, News.sub NE fun p hp => .tail _ hp, hoc3, hsl3, hs31, hs32, hs33, hs34, hgK3, DK3, hKI3⟩
          · rename (News gB LF _ _) => NE
            rename (Fr gB LF _ _) => FE
            exact Keep.mk ⟨rfl, _, _, oc3, sl3, svs3, k3, xs3, K3, rfl, FE, News.sub NE fun p hp => .tail _ hp, hoc3, hsl3, hs31, hs32, hs33, hs34, hgK3, DK3, hKI3⟩
        intro f s' hJz
        (try k_fold)
        refine gG ?_
        intro Pz kz
        obtain ⟨rfl, h10, tk10, oc4, sl4, svs4, k4, xs4, K4, rfl, FD, ND, hoc4, hsl4, hs41, hs42, hs43, hs44, hgK4, DK4, hKI4⟩ := hJz
        refine kz ?_
        clear kz
        subst hMt
        clear FC NC3 F9
        (try dsimp only)
        refine gG ?_
        intro Pz kz
        obtain ⟨_, _, _, _, _, _, kt1, kt2, kt3, kt4⟩ := id DK4
        refine kz ?_
        clear kz
        have hcK4 := hgK4.1 _ (hgK.1 _ hc2)
        have hsv4 := strs_len hs41
        have hrvl : rvs.length ≤ 1000 := by rw [hEr.1, hrl]; omega
        have ND2 := toFront (src := src) (o := srcO x7 y7 t7 u7 n7) (R := (I, oI) :: (LF + 1 + 1, oc4) :: (rw, listO rvs nr) :: (pk, listO pv np') :: K4) ND (by simp) (fun p hp => by
          revert p hp; walk_at "my_sub")
        clear ND
        have oS4 : ∀ p ∈ ((I, oI) :: (LF + 1 + 1, oc4) :: (rw, listO rvs nr) :: (pk, listO pv np') :: K4 : Led), p.1 ≠ src := ne_cons (Ne.symm i1) DK4.offS
        k_steps
        refine Halt.go ?_
        k_dflt walk_at "my_use"
        case kS => exact take_specH w src x7 y7 t7 u7 n7 _ _ _ oS4 (by decide) (by decide) S7
        walk_at "my_used"
        rename (TakPH ..) => hP
        refine gG ?_
        intro Pz kz
        obtain ⟨e5, x8, y8, t8, u8, n8, te5, rfl, e50, e51, S8, rfl⟩ := hP
        refine kz ?_
        clear kz
        k_steps
        rename (IsRange _ _ _ _ _ _ _ _) => hr3
        rename (News gB LF _ _) => NF
        rename (Fr gB LF _ _) => FF
        refine CSrcR.mk (n := e5.toNat) (by rfl) FF NF hr3 (small_one (by omega) (by omega) (by omega) (by omega)) (by rw [rangeSize_nat]; omega) (line_small (by omega)) (DC1 src LF rw pk I oI oc4 rvs nr pv np' K4 svs4) ⟨x8, y8, t8, u8, n8, S8, rfl, rfl, fun _ h => nomatch h⟩ ?_ ?_
        · intro j v ys8 nw8 I2 oI2 C oC D8 m₂ h11 tk11 E' hj ⟨tj, htj⟩ ⟨x9, y9, t9, u9, n9, S9, hnw, hyl, hys⟩ hC hx2' FE NE off9 ne9
          subst htj hnw
          have NG := toFront (src := src) (o := srcO x9 y9 t9 u9 n9) (R := (I2, oI2) :: (C, oC) :: (D8, LCg.lst ys8) :: (I, oI) :: (LF + 1 + 1, oc4) :: (rw, listO rvs nr) :: (pk, listO pv np') :: K4) NE (by simp) (fun p hp => by
            revert p hp; walk_at "my_sub")
          clear NE
          refine gG ?_
          intro Pz kz
          obtain ⟨⟨q1, q2, q3⟩, offr⟩ := id off9
          refine kz ?_
          clear kz
          have oS5 : ∀ p ∈ ((I2, oI2) :: (C, oC) :: (D8, LCg.lst ys8) :: (I, oI) :: (LF + 1 + 1, oc4) :: (rw, listO rvs nr) :: (pk, listO pv np') :: K4 : Led), p.1 ≠ src := ne_cons (Ne.symm q1) (ne_cons (Ne.symm q2) (ne_cons (Ne.symm q3) oS4))
          k_steps
          refine Halt.go ?_
          k_dflt walk_at "my_use"
          case kS => exact one_specH w src sl4 x9 y9 t9 u9 n9 k4 svs4 _ oS5 S9 (by omega) (by omega) (.tail _ (.tail _ (.tail _ (.tail _ (.tail _ (.tail _ (.tail _ hsl4)))))))
          walk_at "my_used"
          rename (OnePH ..) => hP
          refine gG ?_
          intro Pz kz
          obtain ⟨x10, y10, t10, u10, n10, hvm, S10, rfl⟩ := hP
          refine kz ?_
          clear kz
          rename (News gB LF _ _) => NH
          rename (Fr gB LF _ _) => FH
          refine LCg.CompEnd.intro FH NH ((src, srcO x10 y10 t10 u10 n10) :: (I, oI) :: (LF + 1 + 1, oc4) :: (rw, listO rvs nr) :: (pk, listO pv np') :: K4) (fun p hp => ?_) off9 trivial ⟨x10, y10, t10, u10, n10, S10, rfl, by simp [hyl], fun v hv => ?_⟩
          · revert p hp; walk_at "my_sub"
          · rcases List.mem_append.mp hv with h | h
            · exact hys v h
            · rw [List.mem_singleton.mp h]; exact hvm
        · intro g ys nw hJz
          (try k_fold)
          refine gG ?_
          intro Pz kz
          obtain ⟨x9, y9, t9, u9, n9, S9, rfl, hyl, hys⟩ := hJz
          refine kz ?_
          clear kz
          unfold LCg.FinE
          intro D8 h8 tk8 FE NE o9
          refine gG ?_
          intro Pz kz
          obtain ⟨zs, hz1, hz2, hz3⟩ := sub_texts hs41 hs42 hys
          refine kz ?_
          clear kz
          have b8 := neNat (off1_ne o9 _ (.tail _ (.tail _ (.tail _ (.head _)))))
          dsimp only at b8
          have b8_s := Ne.symm b8
          k_steps
          rename (News gB LF _ _) => NJ
          rename (Fr gB LF _ _) => FJ
          refine gG ?_
          intro Pz kz
          obtain ⟨D0, rfl, NK, DK5, hI5, hg5⟩ := drawnD NJ (by assumption) o9 DK4 hKI4
          refine kz ?_
          clear kz
          have hEr2 : Each (RowIn ((D0, tupO [.str xi ti, .ref D8]) :: (D8, LCg.lst ys) :: K4)) rvs rows := hEr.mono fun _ _ z => z.mono fun p hp => .tail _ (.tail _ (hgK4.1 _ hp))
          have hNew : RowIn ((D0, tupO [.str xi ti, .ref D8]) :: (D8, LCg.lst ys) :: K4) (.ref D0) (xi, zs) := ⟨D0, ti, D8, ys, _, rfl, .head _, .tail _ (.head _), hz1⟩
          refine TurnEnd.intro ((src, srcO x9 y9 t9 u9 n9) :: (LF + 1 + 1, oc4) :: (rw, _) :: (pk, listO pv np') :: (D0, tupO [.str xi ti, .ref D8]) :: (D8, LCg.lst ys) :: K4) FJ NK (.head _) (fun p hp => .tail _ hp) (ne_cons i1 (ne_cons i2 (ne_cons i3 (ne_cons i4 hI5)))) ?_
          refine ⟨x9, y9, t9, u9, n9, oc4, _, _, rows ++ [(xi, zs)], _, _, rfl, setM1 _ _ _ _, S9, ⟨_, hoc4⟩, hgK.trans (hgK4.trans hg5), DK5, hEr2.snoc hNew, by simp [hrl], fun r hr => ?_⟩
          rcases List.mem_append.mp hr with h | h
          · exact hrs r h
          · rw [List.mem_singleton.mp h]
            exact ⟨by show zs.length ≤ 7; omega, hv2 xi hxi⟩
    · intro m₁ nw h8 tk8 hJz F7 N7
      (try k_fold)
      refine gG ?_
      intro Pz kz
      obtain ⟨x6, y6, t6, u6, n6, oc, rvs, nr, rows, K, u1, rfl, rfl, S6, ⟨c0', hoc⟩, hgK, DK, hEr, hrl, hrs⟩ := hJz
      refine kz ?_
      clear kz
      have F8 : Fr gB LF h8 _ := F7
      have N8 : News gB LF h8 _ := N7
      clear F7 N7
      subst hM2
      have md1 := neNat DK.b
      have md1_s := Ne.symm md1
      have md2 := neNat DK.d
      have md2_s := Ne.symm md2
      have md3 := neNat DK.f
      have md3_s := Ne.symm md3
      refine gG ?_
      intro Pz kz
      obtain ⟨_, _, _, _, _, _, ks1, ks2, ks3, ks4⟩ := id DK
      refine kz ?_
      clear kz
      k_steps
      refine Halt.go ?_
      rename (News gB LF _ _) => N9
      rename (Fr gB LF _ _) => F9
      refine gG ?_
      intro Pz kz
      obtain ⟨td, rfl, NT, hgT, td1, td2, td3, td4⟩ := drawnE N9 (by assumption) DK
      refine kz ?_
      clear kz
      have hcT := hgT.1 _ (hgK.1 _ hc2)
      have hET : Each (RowIn K) rvs rows := hEr
      obtain ⟨M3, hM3, F9'⟩ := frOut F9
      refine While_inv2 (J := DJ3 src LF rw td pk oc pv np' K rows M3) (n₀ := rows.length) F9' NT
        ⟨x6, y6, t6, u6, n6, rvs, nr, rows, [], 0, [], rfl, rfl, S6, hET, .nil, rfl, rfl, fun _ h => h, (fun _ h => nomatch h)⟩ ?_ ?_
      · intro n2 m₁ nw h1 tk1 F2 N2 hJz
        (try k_fold)
        refine gG ?_
        intro Pz kz
        obtain ⟨x7, y7, t7, u7, n7, rv, nr2, rs, tv, nt2, ts, rfl, rfl, S7, hR1, hT1, hn2, hsum, hin1, hin2⟩ := hJz
        refine kz ?_
        clear kz
        have F3 : Fr _ _ h1 _ := F2
        have N3 : News _ _ h1 _ := N2
        clear F2 N2
        subst hM3
        have hrvl := hR1.1
        have htvl := hT1.1
        k_steps
        · rename (rv = []) => hnil
          rename News h₀ L _ _ => NZ
          rename Fr h₀ L _ _ => FZ
          refine hret _ _ _ ((td, listO tv nt2) :: K) FZ (News.sub NZ fun p hp => ?_) ⟨td, tv, nt2, ts, rfl, .head _, hT1.mono fun _ _ z => z.mono fun p hp => .tail _ hp, ⟨by omega, fun r hr => (hrs r (hin2 r hr)).1, fun r hr => (hrs r (hin2 r hr)).2⟩, (hgR.trans hgK).trans (Grown.cons td4 Grown.refl)⟩
          revert p hp; walk_at "my_sub"
        · rename (¬ rv = []) => hne
          have hlp : 0 < rv.length := List.length_pos_iff.mpr hne
          rename (News gB LF _ _) => N8
          rename (Fr gB LF _ _) => F8
          have N9 := News.sub (N' := (src, srcO x7 y7 t7 u7 n7) :: (rw, listO rv nr2) :: (td, listO tv nt2) :: (LF + 1 + 1, oc) :: (pk, listO pv np') :: K) N8 (fun p hp => .tail _ hp)
          clear N8
          have oT : ∀ p ∈ ((rw, listO rv nr2) :: (td, listO tv nt2) :: (LF + 1 + 1, oc) :: (pk, listO pv np') :: K : Led), p.1 ≠ src := ne_cons DK.b (ne_cons td1 (ne_cons DK.a (ne_cons DK.c ks1)))
          refine Halt.go ?_
          k_dflt walk_at "my_use"
          case kS => exact take_specH w src x7 y7 t7 u7 n7 _ _ _ oT (by show (0 : Int) < ((rv.length : Nat) : Int); omega) (by show ((rv.length : Nat) : Int) < 100; omega) S7
          walk_at "my_used"
          rename (TakPH ..) => hP
          refine gG ?_
          intro Pz kz
          obtain ⟨e6, x8, y8, t8, u8, n8, te6, rfl, e60, e61, S8, rfl⟩ := hP
          refine kz ?_
          clear kz
          refine gG ?_
          intro Pz kz
          obtain ⟨p, v, q, rfl, hpl⟩ := cut_at e60 e61
          refine kz ?_
          clear kz
          refine gG ?_
          intro Pz kz
          obtain ⟨ax, xr, bx, rfl, hvr, ha, hb⟩ := each_cut hR1
          refine kz ?_
          clear kz
          have hpq : (p ++ v :: q).length ≤ 10000000 := by rw [hrvl]; omega
          have hab : (ax ++ xr :: bx).length = (ax ++ bx).length + 1 := by simp only [List.length_append, List.length_cons]; omega
          have htz : tv.length ≤ 1000 := by omega
          k_steps
          rename (News gB LF _ _) => NE
          rename (Fr gB LF _ _) => FE
          refine ⟨_, _, _, _, (ax ++ bx).length, rfl, FE, NE, by omega, x8, y8, t8, u8, n8, p ++ q, _, ax ++ bx, tv ++ [v], _, ts ++ [xr], rfl, rfl, S8, each_app ha hb, hT1.snoc hvr, rfl, by rw [List.length_append (as := ts)]; simp only [List.length_cons, List.length_nil]; omega, fun r hr => hin1 r ?_, fun r hr => ?_⟩
          · rcases List.mem_append.mp hr with h | h <;> simp [h]
          · rcases List.mem_append.mp hr with h | h
            · exact hin2 r h
            · rw [List.mem_singleton.mp h]; exact hin1 _ (by simp)
      · passes_own
end
section
set_option maxHeartbeats 4000000 in
theorem row_spec (w : World) (a d : Addr) (t0 t1 t2 t3 t4 t5 t : Tok) (x : Str) (news : Led) (h1 : (a, instObj 193 d) ∈ news) (h2 : (d, impO w t0 t1 t2 t3 t4 t5 x t) ∈ news) :
    CallSpec w 190 [.ref a] 1 anyH news (fun v news' => ∃ D u, v = .ref D ∧ (∀ p ∈ news, p.1 < D) ∧ news' = (D, tupO [.str (Str.ofString "\x69mport") u, .str x t, .none, .bool false, .bool false, .none]) :: news) := by
  refine CallSpec.of ?_
  intro p loose mean mg mb hh dp un gd env outer A₀ base h₀ L m hpZ gsZ drZ tkZ osZ Q E B F X N T hf hk hH hdp hun hret
  (try k_fold)
  refine wpAny_call ?_
  k_dflt walk_at "my_enter"
  k_steps
  rename News h₀ L _ _ => N9
  rename Fr h₀ L _ _ => F9
  exact hret _ _ _ _ F9 N9 ⟨_, _, rfl, by first | assumption | exact allLt_mem (by assumption), rfl⟩
end
section
theorem mem_stepIn {mid name : Str} {t : List Row} {x b : Str} : b ∈ tget (stepIn mid name t) x ↔ b ∈ tget t x ∨ (x = name ∧ name ∈ t.map (·.1) ∧ mid ∈ tget t name ∧ b ∈ tget t mid) := by
  unfold stepIn
  split
  · rename_i h
    rw [tget_put]
    split
    · rename_i q
      obtain ⟨rfl, q⟩ := q
      rw [List.mem_append, List.mem_filter, decide_eq_true_eq]
      constructor
      · rintro (h1 | ⟨h1, h2⟩)
        · exact .inl h1
        · exact .inr ⟨rfl, q, h, h1⟩
      · rintro (h1 | ⟨_, _, _, h1⟩)
        · exact .inl h1
        · by_cases z : b ∈ tget t x
          · exact .inl z
          · exact .inr ⟨h1, z⟩
    · rename_i q
      constructor
      · exact .inl
      · rintro (h1 | ⟨rfl, h2, _⟩)
        · exact h1
        · exact absurd ⟨rfl, h2⟩ q
  · rename_i h
    exact ⟨.inl, fun q => q.elim id fun ⟨_, _, z, _⟩ => absurd z h⟩
theorem mem_foldIn {mid : Str} : ∀ (ks : List Str) (t : List Row) (x b : Str), (∀ k ∈ ks, k ∈ t.map (·.1)) →
    (b ∈ tget (ks.foldl (fun t name => stepIn mid name t) t) x ↔ b ∈ tget t x ∨ (x ∈ ks ∧ mid ∈ tget t x ∧ b ∈ tget t mid))
  | [], t, x, b, _ => ⟨.inl, fun q => q.elim id fun ⟨z, _⟩ => nomatch z⟩
  | k :: r, t, x, b, h => by
    rw [List.foldl_cons, mem_foldIn r (stepIn mid k t) x b (fun y hy => by rw [keys_stepIn]; exact h y (.tail _ hy))]
    have hk := h k (.head _)
    have hm : ∀ y, mid ∈ tget (stepIn mid k t) y ↔ mid ∈ tget t y := fun y => by
      rw [mem_stepIn]
      exact ⟨fun q => q.elim id fun ⟨e, _, z, _⟩ => e ▸ z, .inl⟩
    have hb : b ∈ tget (stepIn mid k t) mid ↔ b ∈ tget t mid := by
      rw [mem_stepIn]
      exact ⟨fun q => q.elim id fun ⟨_, _, _, z⟩ => z, .inl⟩
    rw [hm, hb, mem_stepIn]
    constructor
    · rintro ((h1 | ⟨rfl, _, h2, h3⟩) | ⟨h1, h2, h3⟩)
      · exact .inl h1
      · exact .inr ⟨.head _, h2, h3⟩
      · exact .inr ⟨.tail _ h1, h2, h3⟩
    · rintro (h1 | ⟨h1, h2, h3⟩)
      · exact .inl (.inl h1)
      · rcases List.mem_cons.mp h1 with rfl | h1
        · exact .inl (.inr ⟨rfl, hk, h2, h3⟩)
        · exact .inr ⟨h1, h2, h3⟩
theorem mem_stepMid {ks : List Str} {t : List Row} (hk : t.map (·.1) = ks) (mid x b : Str) : b ∈ tget (stepMid ks t mid) x ↔ b ∈ tget t x ∨ (mid ∈ tget t x ∧ b ∈ tget t mid) := by
  rw [stepMid, mem_foldIn ks t x b (fun k h => by rw [hk]; exact h)]
  constructor
  · exact fun q => q.elim .inl fun ⟨_, z⟩ => .inr z
  · rintro (h | ⟨h1, h2⟩)
    · exact .inl h
    · refine .inr ⟨?_, h1, h2⟩
      rw [← hk]
      exact Decidable.byContradiction fun q => by rw [tget_none q] at h1; cases h1
def Closed (t : List Row) (ms : List Str) : Prop := ∀ x m b, m ∈ ms → m ∈ tget t x → b ∈ tget t m → b ∈ tget t x
theorem closed_fold {ks : List Str} : ∀ (rest ms : List Str) (t : List Row), t.map (·.1) = ks → Closed t ms → Closed (rest.foldl (stepMid ks) t) (ms ++ rest)
  | [], ms, t, _, h => by rw [List.append_nil]; exact h
  | k :: r, ms, t, hk, h => by
    rw [List.foldl_cons, show ms ++ k :: r = (ms ++ [k]) ++ r by simp]
    refine closed_fold r (ms ++ [k]) _ (by rw [stepMid, keys_foldIn, hk]) fun x m b hm h1 h2 => ?_
    rw [mem_stepMid hk] at h1 h2 ⊢
    rcases List.mem_append.mp hm with hm | hm
    · rcases h1 with h1 | ⟨h1, h1'⟩
      · rcases h2 with h2 | ⟨h2, h2'⟩
        · exact .inl (h x m b hm h1 h2)
        · exact .inr ⟨h x m k hm h1 h2, h2'⟩
      · rcases h2 with h2 | ⟨h2, h2'⟩
        · exact .inr ⟨h1, h k m b hm h1' h2⟩
        · exact .inr ⟨h1, h2'⟩
    · rw [List.mem_singleton.mp hm] at h1 h2
      have h1' : k ∈ tget t x := h1.elim id fun z => z.1
      rcases h2 with h2 | ⟨_, h2⟩
      · exact .inr ⟨h1', h2⟩
      · exact .inr ⟨h1', h2⟩
theorem mono_fold {ks : List Str} {x b : Str} : ∀ (rest : List Str) (t : List Row), t.map (·.1) = ks → b ∈ tget t x → b ∈ tget (rest.foldl (stepMid ks) t) x
  | [], _, _, h => h
  | k :: r, t, hk, h => by
    rw [List.foldl_cons]
    exact mono_fold r _ (by rw [stepMid, keys_foldIn, hk]) ((mem_stepMid hk k x b).mpr (.inl h))
theorem sound_fold {ks : List Str} {rank : Str → Nat} : ∀ (rest : List Str) (t : List Row), t.map (·.1) = ks → (∀ m ∈ rest, m ∈ ks) → (∀ x ∈ ks, ∀ b ∈ tget t x, b ∈ ks → rank b < rank x) → ∀ x ∈ ks, ∀ b ∈ tget (rest.foldl (stepMid ks) t) x, b ∈ ks → rank b < rank x
  | [], _, _, _, h => h
  | k :: r, t, hk, hm, h => by
    rw [List.foldl_cons]
    refine sound_fold r _ (by rw [stepMid, keys_foldIn, hk]) (fun m q => hm m (.tail _ q)) fun x hx b hb hbk => ?_
    rcases (mem_stepMid hk k x b).mp hb with q | ⟨q1, q2⟩
    · exact h x hx b q hbk
    · exact Nat.lt_trans (h k (hm k (.head _)) b q2 hbk) (h x hx k q1 (hm k (.head _)))
theorem tget_start (rows : List Row) (x : Str) : tget (start rows) x = useOf rows x := by
  unfold tget start useOf useF rowF
  rw [List.find?_map, Option.map_map]
  rfl
theorem isLet_iff {rows : List Row} : isLet rows = true ↔ (rows.map (·.1)).Nodup ∧ ∀ x ∈ rows.map (·.1), x ∉ tget (reached rows) x := by
  unfold isLet
  rw [Bool.and_eq_true, decide_eq_true_eq, decide_eq_true_eq, List.filter_eq_nil_iff]
  simp only [decide_eq_true_eq]
theorem filter_lt {p q : Str → Bool} {a : Str} : ∀ {l : List Str}, (∀ x ∈ l, p x = true → q x = true) → a ∈ l → q a = true → p a = false → (l.filter p).length < (l.filter q).length
  | [], _, ha, _, _ => nomatch ha
  | y :: r, h, ha, hq, hp => by
    have le : ∀ {l : List Str}, (∀ x ∈ l, p x = true → q x = true) → (l.filter p).length ≤ (l.filter q).length := by
      intro l
      induction l with
      | nil => intro _; exact Nat.le_refl _
      | cons z s ih =>
        intro k
        have i := ih fun x hx => k x (.tail _ hx)
        have i1 := k z (.head _)
        rw [List.filter_cons, List.filter_cons]
        split
        · rename_i z1
          rw [if_pos (i1 z1), List.length_cons, List.length_cons]; omega
        · split
          · rw [List.length_cons]; omega
          · exact i
    rw [List.filter_cons, List.filter_cons]
    rcases List.mem_cons.mp ha with rfl | ha
    · rw [if_neg (by rw [hp]; decide), if_pos hq, List.length_cons]
      have := le fun x hx => h x (.tail _ hx)
      omega
    · have i := filter_lt (fun x hx => h x (.tail _ hx)) ha hq hp
      have i1 := h y (.head _)
      split
      · rename_i z1
        rw [if_pos (i1 z1), List.length_cons, List.length_cons]; omega
      · split
        · rw [List.length_cons]; omega
        · exact i
/-- an order of what is needed: each name above what it uses -/
theorem let_rank {rows : List Row} (h : isLet rows = true) : ∃ rank : Str → Nat, ∀ x ∈ rows.map (·.1), ∀ o ∈ (useOf rows x).filter (fun o => decide (o ∈ rows.map (·.1))), rank o < rank x := by
  obtain ⟨_, h2⟩ := isLet_iff.mp h
  have hC : Closed (reached rows) (rows.map (·.1)) := by
    have := closed_fold (ks := rows.map (·.1)) (rows.map (·.1)) [] (start rows) (keys_start rows) fun x m b hm => nomatch hm
    rw [List.nil_append] at this
    exact this
  refine ⟨fun x => ((rows.map (·.1)).filter fun y => decide (y ∈ tget (reached rows) x)).length, fun x hx o ho => ?_⟩
  obtain ⟨ho1, ho2⟩ := List.mem_filter.mp ho
  have ho2 : o ∈ rows.map (·.1) := of_decide_eq_true ho2
  have hox : o ∈ tget (reached rows) x := mono_fold _ _ (keys_start rows) (by rw [tget_start]; exact ho1)
  refine filter_lt (a := o) (fun y _ hy => decide_eq_true (hC x o y ho2 hox (of_decide_eq_true hy))) ho2 (decide_eq_true hox) (decide_eq_false (h2 o ho2))
/-- where nothing comes to need itself, nothing is refused -/
theorem not_bad {rows : List Row} (h : isLet rows = true) : ¬ Bad rows := by
  rintro (q | ⟨S, ⟨r0, P, hs, hn⟩, g, hg, hr⟩)
  · exact q (isLet_iff.mp h).1
  · obtain ⟨rank, hk⟩ := let_rank h
    obtain ⟨_, _, c3, _⟩ := P.acy rank hk
    have h1 := c3 g hg
    rcases hr with z | ⟨x, rfl, hx⟩
    · omega
    · have hxn := P.fndNames hg x (List.mem_singleton.mpr rfl)
      exact Nat.lt_irrefl _ (hk x hxn x (List.mem_filter.mpr ⟨hx, decide_eq_true hxn⟩))
/-- rows in the order told -/
structure Ordered (rows rs : List Row) : Prop where
  len : rs.length = rows.length
  inn : ∀ r ∈ rs, r ∈ rows
  new : ∀ (i : Nat) r, rs[i]? = some r → r.1 ∉ (rs.take i).map (·.1)
  met : ∀ (i : Nat) r, rs[i]? = some r → ∀ o ∈ needs r, o ∈ rows.map (·.1) → o ∈ (rs.take i).map (·.1)
theorem useOf_row {rows : List Row} (hnd : (rows.map (·.1)).Nodup) {r : Row} (hr : r ∈ rows) : useOf rows r.1 = needs r := by
  obtain ⟨q, h1, h2, h3⟩ := rowF_some (List.mem_map_of_mem (f := fun r : Row => r.1) hr)
  have : q = r := by
    rw [List.nodup_iff_pairwise_ne, List.pairwise_map] at hnd
    obtain ⟨i, hi⟩ := List.getElem?_of_mem h2
    obtain ⟨j, hj⟩ := List.getElem?_of_mem hr
    obtain ⟨i1, i2⟩ := List.getElem?_eq_some_iff.mp hi
    obtain ⟨j1, j2⟩ := List.getElem?_eq_some_iff.mp hj
    rw [List.pairwise_iff_getElem] at hnd
    rcases Nat.lt_trichotomy i j with z | z | z
    · exact absurd (by rw [i2, j2]; exact h3) (hnd i j i1 j1 z)
    · subst z; rw [← i2, ← j2]
    · exact absurd (by rw [i2, j2]; exact h3.symm) (hnd j i j1 i1 z)
  unfold useOf useF
  rw [h1, this]; rfl
theorem each_rows {R : Value → Row → Prop} {rows : List Row} : ∀ {vs : List Value} {gs : List (List Str)}, Each (fun v g => ∃ r, r ∈ rows ∧ g = [r.1] ∧ R v r) vs gs → ∃ rs : List Row, Each R vs rs ∧ gs = rs.map (fun r => [r.1]) ∧ ∀ r ∈ rs, r ∈ rows
  | [], [], _ => ⟨[], .nil, rfl, fun _ h => nomatch h⟩
  | [], _ :: _, h => by cases h.1
  | _ :: _, [], h => by cases h.1
  | v :: vr, g :: gr, h => by
    obtain ⟨x, hx, r, h1, h2, h3⟩ := h.2 0 v rfl
    cases hx
    obtain ⟨rs, k1, k2, k3⟩ := each_rows (vs := vr) (gs := gr) ⟨by have := h.1; simpa using this, fun i u e => h.2 (i + 1) u e⟩
    exact ⟨r :: rs, k1.cons h3, by rw [h2, k2]; rfl, fun q hq => by
      rcases List.mem_cons.mp hq with rfl | hq
      · exact h1
      · exact k3 q hq⟩
theorem flat_one : ∀ (rs : List Row), (rs.map fun r => [r.1]).flatten = rs.map (·.1)
  | [] => rfl
  | r :: q => by rw [List.map_cons, List.flatten_cons, flat_one q]; rfl
theorem grouped_in {rows : List Row} {S : TS} (G : Grouped rows S) {x : Str} (hx : x ∈ rows.map (·.1)) : ∃ g ∈ S.fnd, x ∈ g := by
  obtain ⟨r0, P, hs, hn⟩ := G
  have h1 := P.isoS x
  rw [hn x hx] at h1
  obtain ⟨b, hb⟩ := Option.isSome_iff_exists.mp h1
  cases b with
  | false => exact (P.fndI x).mp hb
  | true =>
    have := (P.opnI x).mpr hb
    rw [P.nil hs] at this
    cases this
/-- what is told is in order -/
theorem ordered_of {rows rs : List Row} {S : TS} (hnd : (rows.map (·.1)).Nodup) (G : Grouped rows S) (hr : ∀ g ∈ S.fnd, ¬ isRound rows g) (hS : S.fnd = rs.map (fun r => [r.1])) (hin : ∀ r ∈ rs, r ∈ rows) : Ordered rows rs := by
  have hG := G
  obtain ⟨r0, P, hs, hn⟩ := G
  have hN := P.fndN
  rw [hS, flat_one] at hN
  have hall : ∀ x ∈ rows.map (·.1), x ∈ rs.map (·.1) := fun x hx => by
    obtain ⟨g, hg, hxg⟩ := grouped_in hG hx
    rw [hS] at hg
    obtain ⟨r, h1, rfl⟩ := List.mem_map.mp hg
    rw [List.mem_singleton.mp hxg]
    exact List.mem_map_of_mem h1
  have l1 := nodup_le hnd hall
  have l2 := nodup_le hN fun x hx => by
    obtain ⟨r, h1, rfl⟩ := List.mem_map.mp hx
    exact List.mem_map_of_mem (f := fun r : Row => r.1) (hin r h1)
  rw [List.length_map, List.length_map] at l1 l2
  refine ⟨by omega, hin, fun i r h q => ?_, fun i r h o ho hon => ?_⟩
  · rw [List.map_take] at q
    exact take_nodup hN (by rw [List.getElem?_map, h]; rfl) q
  · have hri := hin r (List.mem_of_getElem? h)
    have hgi : S.fnd[i]? = some [r.1] := by rw [hS, List.getElem?_map, h]; rfl
    rcases P.fndT i r.1 hgi o (List.mem_filter.mpr ⟨by rw [useOf_row hnd hri]; exact ho, decide_eq_true hon⟩) with rfl | ⟨j, g, hj, hgj, hog⟩
    · exact absurd (.inr ⟨_, rfl, by rw [useOf_row hnd hri]; exact ho⟩) (hr _ (List.mem_of_getElem? hgi))
    · rw [hS, List.getElem?_map] at hgj
      cases hq : rs[j]? with
      | none => rw [hq] at hgj; cases hgj
      | some r' =>
        rw [hq] at hgj
        cases hgj
        rw [List.mem_singleton.mp hog]
        exact List.mem_map_of_mem (f := fun r : Row => r.1) (List.mem_of_getElem? (i := j) (by rw [List.getElem?_take_of_lt hj]; exact hq))
/-- where something is told, the rows are as they are let -/
theorem ordered_let {rows rs : List Row} (hnd : (rows.map (·.1)).Nodup) (O : Ordered rows rs) : isLet rows = true := by
  refine isLet_iff.mpr ⟨hnd, fun x hx q => ?_⟩
  have hN : (rs.map (·.1)).Nodup := by
    rw [List.nodup_iff_pairwise_ne, List.pairwise_iff_getElem]
    intro i j hi hj hij e
    rw [List.length_map] at hj
    refine O.new j _ (List.getElem?_eq_getElem hj) ?_
    rw [List.getElem_map] at e
    rw [List.getElem_map] at e
    rw [← e]
    exact List.mem_map_of_mem (f := fun r : Row => r.1) (List.mem_of_getElem? (i := i) (by rw [List.getElem?_take_of_lt hij]; exact List.getElem?_eq_getElem _))
  have hall : ∀ x ∈ rows.map (·.1), x ∈ rs.map (·.1) := by
    intro x hx
    refine Decidable.byContradiction fun z => ?_
    have h1 : (x :: rs.map (·.1)).Nodup := List.nodup_cons.mpr ⟨z, hN⟩
    have := nodup_le h1 fun y hy => by
      rcases List.mem_cons.mp hy with rfl | hy
      · exact hx
      · obtain ⟨r, k, rfl⟩ := List.mem_map.mp hy
        exact List.mem_map_of_mem (f := fun r : Row => r.1) (O.inn r k)
    rw [List.length_cons, List.length_map, List.length_map, O.len] at this
    omega
  have hk : ∀ x ∈ rows.map (·.1), ∀ b ∈ tget (start rows) x, b ∈ rows.map (·.1) → (rs.map (·.1)).idxOf b < (rs.map (·.1)).idxOf x := by
    intro x hx b hb hbn
    rw [tget_start] at hb
    have hxr := hall x hx
    have hlt := List.idxOf_lt_length_iff.mpr hxr
    have hlt' := hlt
    rw [List.length_map] at hlt'
    have hget : (rs[(rs.map (·.1)).idxOf x]'hlt').1 = x := by
      have := List.getElem_idxOf hlt
      rw [List.getElem_map] at this
      exact this
    have hri := O.inn _ (List.getElem_mem hlt')
    have hb' : b ∈ needs (rs[(rs.map (·.1)).idxOf x]'hlt') := by
      rw [← useOf_row hnd hri, hget]; exact hb
    have := O.met _ _ (List.getElem?_eq_getElem hlt') b hb' hbn
    rw [List.map_take] at this
    obtain ⟨j, hj⟩ := List.getElem?_of_mem this
    have hjl := (List.getElem?_eq_some_iff.mp hj).1
    rw [List.length_take] at hjl
    have hj2 : j < (rs.map (·.1)).idxOf x := by omega
    rw [List.getElem?_take_of_lt hj2] at hj
    obtain ⟨h1, h2⟩ := List.getElem?_eq_some_iff.mp hj
    have : (rs.map (·.1)).idxOf b ≤ j := by
      rw [← h2]
      exact Nat.le_of_eq (hN.idxOf_getElem _ _)
    omega
  exact Nat.lt_irrefl _ (sound_fold (rank := fun y => (rs.map (·.1)).idxOf y) (rows.map fun r : Row => r.1) (start rows) (keys_start rows) (fun _ h => h) hk x hx x q hx)
end
section
section
local macro_rules | `(tactic| k_mem) => `(tactic| assumption)
local macro_rules | `(tactic| walk_at "my_skip") => `(tactic| first | exact sub_refl | (refine sub_skip ?_; walk_at "my_skip"))
local macro_rules | `(tactic| walk_at "my_sub") => `(tactic| (first | walk_at "my_skip" | exact sub_nil | (refine sub_cons (by k_mem) ?_; walk_at "my_sub")))
inductive PoolP (s : Shared) (H : Heap) (L : Addr) (m : Str → Option Value) (R : Led) (v : Value) (s' : Shared) : Prop where
  | mk (l : Addr) (x y : Int) (t u : Tok) (n : Nat) (h : Heap) (tk : Nat) (e : v = .ref l) (es : s' = { s with heap := h, toks := tk }) (S : SrcOk x y) (F : Fr H L h m) (N : News H L h ((l, srcO x y t u n) :: R)) (off : ∀ p ∈ R, p.1 ≠ l) : PoolP s H L m R v s'
theorem cutPool {M : Model} {A : Around} {t : Sem Value} {E : Value → Shared → Prop} {s : Shared} {Q : Value → Shared → Prop} {H : Heap} {L : Addr} {m : Str → Option Value} {R : Led} (_ : Fr H L s.heap m) (_ : News H L s.heap R) (h1 : wpAny M A t (Keep (PoolP s H L m R)) E s)
    (h2 : ∀ l x y tt u n h tk, SrcOk x y → Fr H L h m → News H L h ((l, srcO x y tt u n) :: R) → (∀ p ∈ R, p.1 ≠ l) → Q (.ref l) { s with heap := h, toks := tk }) : wpAny M A t Q E s :=
  cutS _ h1 fun v s' ⟨l, x, y, t, u, n, h, tk, e1, e2, S, F, N, hl⟩ => by rw [e1, e2]; exact h2 l x y t u n h tk S F N hl
theorem mixed_ok (b : Int) : SrcOk b ((((b.fmod 2147483629 + 7919 * 0 * 0 + 31 * 0 + 17) * 48271).fmod 2147483647)) := by
  have m0 := Int.emod_nonneg ((b.fmod 2147483629 + 7919 * 0 * 0 + 31 * 0 + 17) * 48271) (show (2147483647 : Int) ≠ 0 by decide)
  have m1 := Int.emod_lt_of_pos ((b.fmod 2147483629 + 7919 * 0 * 0 + 31 * 0 + 17) * 48271) (show (0 : Int) < 2147483647 by decide)
  rw [← Int.fmod_eq_emod_of_nonneg _ (by decide)] at m0 m1
  exact ⟨m0, m1⟩
theorem mixed_ok2 (a z : Int) : SrcOk a (z.fmod 2147483647) := by
  have m0 := Int.emod_nonneg z (show (2147483647 : Int) ≠ 0 by decide)
  have m1 := Int.emod_lt_of_pos z (show (0 : Int) < 2147483647 by decide)
  rw [← Int.fmod_eq_emod_of_nonneg _ (by decide)] at m0 m1
  exact ⟨m0, m1⟩
theorem two_off {a b l : Nat} {o1 o2 : Obj} (h : a < l ∧ b < l) : ∀ p ∈ ([(a, o1), (b, o2)] : Led), p.1 ≠ l := by
  intro p hp
  simp only [List.mem_cons, List.not_mem_nil, or_false] at hp
  rcases hp with rfl | rfl
  · exact Nat.ne_of_lt h.1
  · exact Nat.ne_of_lt h.2
theorem topCells {H h : Heap} {L a b : Addr} {o1 o2 : Obj} {news2 : Led} {rl : Addr} {rvs : List Value} {k : Nat} {rows : List Row} (N : News H L h news2) (hg : Grown [(a, o1), (b, o2)] news2) (d1 : ∃ x, o1.data = .cell x) (d2 : ∃ x, o2.data = .cell x) (hrl : (rl, listO rvs k) ∈ news2) (hE : Each (RowIn news2) rvs rows) :
    ∃ K, News H L h ((a, o1) :: (b, o2) :: K) ∧ (∀ p ∈ K, p.1 ≠ a) ∧ (∀ p ∈ K, p.1 ≠ b) ∧ (rl, listO rvs k) ∈ K ∧ Each (RowIn K) rvs rows := by
  obtain ⟨K, NR, gK, off, mem, new⟩ := regrow (M := [(a, o1), (b, o2)]) (X := []) N (by simpa using hg) (fun p hp => nomatch hp)
  have hM : ∀ p ∈ ([(a, o1), (b, o2)] : Led), ∀ xs n, p.2.data ≠ .seq xs n := by
    intro p hp xs n q
    simp only [List.mem_cons, List.not_mem_nil, or_false] at hp
    obtain ⟨x1, e1⟩ := d1
    obtain ⟨x2, e2⟩ := d2
    rcases hp with rfl | rfl
    · rw [e1] at q; cases q
    · rw [e2] at q; cases q
  have hS := seqSub_own mem hM
  exact ⟨K, NR, notmem_ne off (by simp), notmem_ne off (by simp), hS _ hrl ⟨_, _, rfl⟩, hE.upS hS⟩
theorem law1 {h₀ h : Heap} {L ml a b rl : Addr} {om o' : Obj} {K : Led} (N : News h₀ L h ((ml, listO [] 0) :: (a, om) :: (b, o') :: K)) (l1 : a < ml ∧ b < ml ∧ AllLt ml K) (d : o'.data = .cell (some (.ref rl))) :
    ∃ ml' om' o'', ml' = ml ∧ om' = om ∧ o'' = o' ∧ News h₀ L h ((ml', listO [] 0) :: (a, om') :: (b, o'') :: K) ∧ (@LT.lt Nat _ a ml') ∧ (@LT.lt Nat _ b ml') ∧ (∀ p ∈ K, p.1 ≠ ml') ∧ o''.data = .cell (some (.ref rl)) :=
  ⟨_, _, _, rfl, rfl, rfl, N, l1.1, l1.2.1, allLt_ne l1.2.2, d⟩
/-- an Import in the ledger that lies off some places -/
inductive ImpOff (w : World) (B : List Addr) (K : Led) (v : Value) (x : Str) : Prop where
  | mk (a d : Addr) (t0 t1 t2 t3 t4 t5 t : Tok) (e : v = .ref a) (z1 : a ∉ B) (z2 : d ∉ B) (h : (a, instObj 193 d) ∈ K) (hd : (d, impO w t0 t1 t2 t3 t4 t5 x t) ∈ K) : ImpOff w B K v x
theorem ImpOff.mono {w : World} {B : List Addr} {K K' : Led} {v : Value} {x : Str} (h : ImpOff w B K v x) (k : ∀ p ∈ K, p ∈ K') : ImpOff w B K' v x := let ⟨a, d, t0, t1, t2, t3, t4, t5, t, e, z1, z2, b, c⟩ := h; ⟨a, d, t0, t1, t2, t3, t4, t5, t, e, z1, z2, k _ b, k _ c⟩
theorem ImpOff.to {w : World} {B : List Addr} {K K' : Led} {v : Value} {x : Str} (h : ImpOff w B K v x) (k : ∀ p ∈ K, p.1 ∉ B → p ∈ K') : ImpIn w K' v x := let ⟨a, d, t0, t1, t2, t3, t4, t5, t, e, z1, z2, b, c⟩ := h; ⟨a, d, t0, t1, t2, t3, t4, t5, t, e, k _ b z1, k _ c z2⟩
theorem off_lt {B : List Addr} {nw : Led} {d : Addr} (h : ∀ p ∈ nw, p.1 < d) (k : ∀ b ∈ B, ∃ o, (b, o) ∈ nw) : d ∉ B := fun q => let ⟨_, m⟩ := k d q; Nat.lt_irrefl _ (h _ m)
theorem have4 {a b c d : Addr} {o1 o2 o3 o4 : Obj} {K nw : Led} (h : ∀ p ∈ ([(a, o1), (b, o2), (c, o3), (d, o4)] ++ K : Led), p ∈ nw) : ∀ x ∈ ([a, b, c, d] : List Addr), ∃ o, (x, o) ∈ nw := fun x hx => by
  simp only [List.mem_cons, List.not_mem_nil, or_false] at hx
  rcases hx with rfl | rfl | rfl | rfl
  · exact ⟨o1, h _ (by simp)⟩
  · exact ⟨o2, h _ (by simp)⟩
  · exact ⟨o3, h _ (by simp)⟩
  · exact ⟨o4, h _ (by simp)⟩
theorem off4 {X : Led} {a b c d : Addr} (h1 : ∀ p ∈ X, p.1 ≠ a) (h2 : ∀ p ∈ X, p.1 ≠ b) (h3 : ∀ p ∈ X, p.1 ≠ c) (h4 : ∀ p ∈ X, p.1 ≠ d) : ∀ p ∈ X, p.1 ∉ ([a, b, c, d] : List Addr) := fun p hp q => by
  simp only [List.mem_cons, List.not_mem_nil, or_false] at q
  rcases q with q | q | q | q
  · exact h1 p hp q
  · exact h2 p hp q
  · exact h3 p hp q
  · exact h4 p hp q
theorem law2 {h₀ h : Heap} {L am dm dl I ml a b : Addr} {oA oD oL oI oM om oc : Obj} {K2 : Led} (N : News h₀ L h ((am, oA) :: (dm, oD) :: (dl, oL) :: (I, oI) :: (ml, oM) :: (a, om) :: (b, oc) :: K2)) (m1 : ∀ p ∈ ((dl, oL) :: (I, oI) :: (ml, oM) :: (a, om) :: (b, oc) :: K2 : Led), p.1 < dm) (m2 : @LT.lt Nat _ dm am)
    (l3 : I < dl ∧ ml < dl ∧ a < dl ∧ b < dl ∧ AllLt dl K2) (k1 : ∀ p ∈ K2, p.1 ∉ ([I, ml, a, b] : List Addr)) :
    ∃ K3, News h₀ L h ((I, oI) :: (ml, oM) :: (a, om) :: (b, oc) :: K3) ∧ Grown K2 K3 ∧ (am, oA) ∈ K3 ∧ (dm, oD) ∈ K3 ∧ (dl, oL) ∈ K3 ∧ (∀ p ∈ K3, p.1 ≠ I) ∧ (∀ p ∈ K3, p.1 ≠ ml) ∧ (∀ p ∈ K3, p.1 ≠ a) ∧ ∀ p ∈ K3, p.1 ≠ b := by
  have hd : ∀ p ∈ ((dl, oL) :: (I, oI) :: (ml, oM) :: (a, om) :: (b, oc) :: K2 : Led), p.1 ≠ dm := lt_ne m1
  have ham : ∀ p ∈ ((dm, oD) :: (dl, oL) :: (I, oI) :: (ml, oM) :: (a, om) :: (b, oc) :: K2 : Led), p.1 ≠ am := ne_cons (Nat.ne_of_lt m2) fun p hp => Nat.ne_of_lt (Nat.lt_trans (m1 p hp) m2)
  refine ⟨(am, oA) :: (dm, oD) :: (dl, oL) :: K2, News.sub N fun p hp => ?_, Grown.cons (fun p hp => ?_) (Grown.cons (fun p hp => ?_) (Grown.cons (allLt_ne l3.2.2.2.2) Grown.refl)), .head _, .tail _ (.head _), .tail _ (.tail _ (.head _)), ?_, ?_, ?_, ?_⟩
  · revert p hp; walk_at "my_sub"
  · refine ham p ?_
    revert p hp; walk_at "my_sub"
  · refine hd p ?_
    revert p hp; walk_at "my_sub"
  · exact ne_cons (Ne.symm (ham _ (.tail _ (.tail _ (.head _))))) (ne_cons (Ne.symm (hd _ (.tail _ (.head _)))) (ne_cons (Nat.ne_of_gt l3.1) fun p hp q => k1 p hp (by rw [q]; simp)))
  · exact ne_cons (Ne.symm (ham _ (.tail _ (.tail _ (.tail _ (.head _)))))) (ne_cons (Ne.symm (hd _ (.tail _ (.tail _ (.head _))))) (ne_cons (Nat.ne_of_gt l3.2.1) fun p hp q => k1 p hp (by rw [q]; simp)))
  · exact ne_cons (Ne.symm (ham _ (.tail _ (.tail _ (.tail _ (.tail _ (.head _))))))) (ne_cons (Ne.symm (hd _ (.tail _ (.tail _ (.tail _ (.head _)))))) (ne_cons (Nat.ne_of_gt l3.2.2.1) fun p hp q => k1 p hp (by rw [q]; simp)))
  · exact ne_cons (Ne.symm (ham _ (.tail _ (.tail _ (.tail _ (.tail _ (.tail _ (.head _)))))))) (ne_cons (Ne.symm (hd _ (.tail _ (.tail _ (.tail _ (.tail _ (.head _))))))) (ne_cons (Nat.ne_of_gt l3.2.2.2.1) fun p hp q => k1 p hp (by rw [q]; simp)))
/-- what is told, less what stands ahead -/
theorem told_cut {w : World} {K : Led} {tvs ivs : List Value} {r : Row} (h : (tvs = ivs ∧ needs r = r.2) ∨ ∃ x, tvs = x :: ivs ∧ needs r = ("Prelude" : Str) :: r.2 ∧ ImpIn w K x "Prelude") : kms_pick tvs (some (((tvs.length : Nat) : Int) - ((ivs.length : Nat) : Int))) none = ivs := by
  rcases h with ⟨rfl, _⟩ | ⟨x, rfl, _, _⟩
  · have : ((tvs.length : Nat) : Int) - ((tvs.length : Nat) : Int) = 0 := by omega
    rw [this]
    simp [kms_pick, kms_hi, kms_lo]
  · have : (((x :: ivs).length : Nat) : Int) - ((ivs.length : Nat) : Int) = 1 := by rw [List.length_cons]; omega
    rw [this]
    simp [kms_pick, kms_hi, kms_lo]
theorem News.named {h₀ h : Heap} {L : Addr} {X : Led} (N : News h₀ L h X) : ∃ Z, Z = X ∧ News h₀ L h Z := ⟨X, rfl, N⟩
theorem CallSpecX.use {w : World} {f : Addr} {vs : List Value} {lv : Nat} {news : Led} {Post : Value → Led → Prop} {Bad : Prop} (S : CallSpecX w f vs lv news Post Bad) {A A₀ : Around} {p : Program} {loose : List Str} {mean : ExcName → Option Value} {mg mb : Str → Option Value} {dp un : Nat} {gd : Option (List Code)} {env : Env} {outer : List Env} {base h₀ : Heap} {L : Addr} {m : Str → Option Value} {s : Shared} {Q E : Value → Shared → Prop}
    (hA : A = { handled := none, depth := dp, frames := some (env :: outer), guards := gd, units := un }) (B : Below A₀ base outer h₀) (F : Fr h₀ L s.heap m) (X : (hd.heap_39 w.params).In h₀) (N : News h₀ L s.heap news) (T : Top p loose mean mg mb h₀) (hf : env.frame = some L) (hk : env.scope.kind = .function) (hdp : dp + 10 * lv < recursionLimit) (hun : un + 100 * lv < cLine)
    (h : ∀ v h' tk' news', Fr h₀ L h' m → News h₀ L h' news' → Post v news' → Q v { s with heap := h', toks := tk' })
    (hr : Bad → ∀ e g h' tk', Fr h₀ L g m → RaisedX base (env :: outer) e news h' → g.UpToSlots h' → E (.ref e) { s with heap := h', toks := tk' }) : wpAny (model prg w) A (call (.ref f) vs) Q E s := by
  subst hA
  exact S p loose mean mg mb dp un gd env outer A₀ base h₀ L m s Q E B F X N T hf hk hdp hun h hr
theorem CallSpecH.use {w : World} {f : Addr} {vs : List Value} {lv : Nat} {news : Led} {Post : Value → Led → Prop} (S : CallSpecH w f vs lv news Post) {A A₀ : Around} {p : Program} {loose : List Str} {mean : ExcName → Option Value} {mg mb : Str → Option Value} {hh : Option Value} {dp un : Nat} {gd : Option (List Code)} {env : Env} {outer : List Env} {base h₀ : Heap} {L : Addr} {m : Str → Option Value} {s : Shared} {Q E : Value → Shared → Prop}
    (hA : A = { handled := hh, depth := dp, frames := some (env :: outer), guards := gd, units := un }) (B : Below A₀ base outer h₀) (F : Fr h₀ L s.heap m) (X : (hd.heap_39 w.params).In h₀) (N : News h₀ L s.heap news) (T : Top p loose mean mg mb h₀) (hf : env.frame = some L) (hk : env.scope.kind = .function) (hH : HeldAt hh s.heap news) (hdp : dp + 10 * lv < recursionLimit) (hun : un + 100 * lv < cLine)
    (h : ∀ v h' tk' news', Fr h₀ L h' m → News h₀ L h' news' → Post v news' → Q v { s with heap := h', toks := tk' }) : wpAny (model prg w) A (call (.ref f) vs) Q E s := by
  subst hA
  exact S p loose mean mg mb hh dp un gd env outer A₀ base h₀ L m s Q E B F X N T hf hk hH hdp hun h
theorem Grown.swap {X X' Y : Led} (g : Grown X Y) (h1 : ∀ p ∈ X', p ∈ X) (h2 : ∀ p ∈ X, p ∈ X') : Grown X' Y := ⟨fun p hp => g.1 p (h1 p hp), fun p hp => (g.2 p hp).imp (h2 p) fun k q hq => k q (h1 q hq)⟩
def NoCell (p : Addr × Obj) : Prop := ∀ c, p.2.data ≠ .cell c
theorem ImpIn.monoC {w : World} {K K' : Led} {v : Value} {x : Str} (h : ImpIn w K v x) (k : ∀ p ∈ K, NoCell p → p ∈ K') : ImpIn w K' v x := let ⟨a, d, t0, t1, t2, t3, t4, t5, t, e, b, c⟩ := h; ⟨a, d, t0, t1, t2, t3, t4, t5, t, e, k _ b (fun _ z => nomatch z), k _ c (fun _ z => nomatch z)⟩
theorem ModIn.monoC {w : World} {K K' : Led} {v : Value} {r : Row} (h : ModIn w K v r) (k : ∀ p ∈ K, NoCell p → p ∈ K') : ModIn w K' v r := let ⟨a, d, t0, t1, t2, t3, t4, t5, t, il, dl, ivs, n, e, b, c, f, g⟩ := h; ⟨a, d, t0, t1, t2, t3, t4, t5, t, il, dl, ivs, n, e, k _ b (fun _ z => nomatch z), k _ c (fun _ z => nomatch z), k _ f (fun _ z => nomatch z), g.mono fun _ _ z => z.monoC k⟩
theorem noCell_own {M X' nw : Led} (h : ∀ p ∈ nw, p ∈ M ∨ p ∈ X') (hM : ∀ p ∈ M, ∃ c, p.2.data = .cell c) : ∀ p ∈ nw, NoCell p → p ∈ X' := fun p hp z => (h p hp).elim (fun q => absurd (hM p q).choose_spec (z _)) id
theorem two_cells {a b : Addr} {o1 o2 : Obj} (h1 : ∃ c, o1.data = .cell c) (h2 : ∃ c, o2.data = .cell c) : ∀ p ∈ ([(a, o1), (b, o2)] : Led), ∃ c, p.2.data = .cell c := fun p hp => by
  simp only [List.mem_cons, List.not_mem_nil, or_false] at hp
  rcases hp with rfl | rfl
  · exact h1
  · exact h2
theorem off2 {X : Led} {a b : Addr} (h1 : ∀ p ∈ X, p.1 ≠ a) (h2 : ∀ p ∈ X, p.1 ≠ b) : ∀ p ∈ X, p.1 ∉ ([a, b] : List Addr) := fun p hp q => by
  simp only [List.mem_cons, List.not_mem_nil, or_false] at q
  rcases q with q | q
  · exact h1 p hp q
  · exact h2 p hp q
theorem law3 {h₀ h : Heap} {L ml a b : Addr} {om o' : Obj} {K : Led} (N : News h₀ L h ((ml, listO [] 0) :: (a, om) :: (b, o') :: K)) (l1 : a < ml ∧ b < ml ∧ AllLt ml K) (d : om.data = .cell (some (.ref ml))) :
    ∃ ml' om', ml' = ml ∧ om' = om ∧ News h₀ L h ((ml', listO [] 0) :: (a, om') :: (b, o') :: K) ∧ (@LT.lt Nat _ a ml') ∧ (@LT.lt Nat _ b ml') ∧ (∀ p ∈ K, p.1 ≠ ml') ∧ om'.data = .cell (some (.ref ml')) :=
  ⟨_, _, rfl, rfl, N, l1.1, l1.2.1, allLt_ne l1.2.2, d⟩
theorem row_pairs {K : Led} : ∀ {vs : List Value} {rows : List Row}, Each (RowIn K) vs rows → ∃ prs : List (Str × Value), prs.map (·.1) = rows.map (·.1) ∧ ∀ (j : Nat) v, vs[j]? = some v → ∃ a k t x, v = Value.ref a ∧ prs[j]? = some (k, x) ∧ (a, tupO [.str k t, x]) ∈ K
  | [], [], _ => ⟨[], rfl, fun j v h => by simp at h⟩
  | [], _ :: _, h => by cases h.1
  | _ :: _, [], h => by cases h.1
  | v :: vr, r :: rr, h => by
    obtain ⟨x, hx, a, t, l, vs, n, e, ha, _⟩ := h.2 0 v rfl
    cases hx
    obtain ⟨prs, k1, k2⟩ := row_pairs (vs := vr) (rows := rr) ⟨by have := h.1; simpa using this, fun i u e => h.2 (i + 1) u e⟩
    refine ⟨(r.1, .ref l) :: prs, by rw [List.map_cons, List.map_cons, k1], fun j u hu => ?_⟩
    cases j with
    | zero =>
      simp at hu
      subst hu
      exact ⟨a, r.1, t, .ref l, e, rfl, ha⟩
    | succ j => exact k2 j u (by simpa using hu)
theorem pair_val {x : Str} : ∀ {prs : List (Str × Value)}, x ∈ prs.map (·.1) → ∃ v, valueAt prs x = some v
  | [], h => nomatch h
  | p :: r, h => by
    unfold valueAt
    rw [List.find?_cons]
    by_cases q : p.1 = x
    · exact ⟨p.2, by simp [q]⟩
    · rcases List.mem_cons.mp h with z | z
      · exact absurd z.symm q
      · obtain ⟨v, hv⟩ := pair_val z
        exact ⟨v, by rw [show decide (p.1 = x) = false by simpa using q]; exact hv⟩
theorem pair_none {x : Str} {prs : List (Str × Value)} (h : x ∉ prs.map (·.1)) : valueAt prs x = none := by
  unfold valueAt
  rw [List.find?_eq_none.mpr fun p hp => by
    simp only [decide_eq_true_eq]
    exact fun e => h (List.mem_map.mpr ⟨p, hp, e⟩)]
  rfl
end
end
local macro_rules | `(tactic| walk_at "subscriptTail") => `(tactic| (k_here; (with_reducible show wpAny _ _ (subscriptTail _ _ (Value.ref _) (Value.str _ _)) _ _ _); k_dflt (refine kda_item (knd := PySem.strKind _ _) (by k_asm) (by k_mem) (by k_asm) (strKind_is _ _ _ _) (by assumption) ?_)))
local macro_rules | `(tactic| walk_at "setItem ref str") => `(tactic| (k_here; k_dflt (refine' storeOld ?F ?N ?U ?d (strKind_is _ _ _ _) ?i ?_; (case F => k_asm); (case N => k_asm); (case U => k_updF); (case d => k_asm); (case i => assumption)); intro h' o' F' N' hd'; (try dsimp only at N')))
section
local macro_rules | `(tactic| walk_at "call ref") => `(tactic| (k_here; (with_reducible show wpAny _ _ (call (Value.ref 212) _) _ _ _); (fail_if_success (with_reducible show wpAny _ _ _ (Keep _) _ _)); refine halt ?_))
local macro_rules | `(tactic| walk_at "call ref") => `(tactic| (k_here; (with_reducible show wpAny _ _ (call (Value.ref 231) _) _ _ _); refine halt ?_))
local macro_rules | `(tactic| walk_at "call ref") => `(tactic| (k_here; (with_reducible show wpAny _ _ (call (Value.ref 200) _) _ _ _); refine halt ?_))
local macro_rules | `(tactic| walk_at "call ref") => `(tactic| (k_here; (with_reducible show wpAny _ _ (call (Value.ref 193) _) _ _ _); refine halt ?_))
local macro_rules | `(tactic| walk_at "call ref") => `(tactic| (k_here; (with_reducible show wpAny _ _ (call (Value.ref 166) _) _ _ _); refine halt ?_))
local macro_rules | `(tactic| walk_at "call ref") => `(tactic| (k_here; (with_reducible show wpAny _ _ (call (Value.ref 238) _) _ _ _); refine halt ?_))
local macro_rules | `(tactic| walk_at "call ref") => `(tactic| (k_here; (with_reducible show wpAny _ _ (call (Value.ref 205) _) _ _ _); refine halt ?_))
local macro_rules | `(tactic| walk_at "call ref") => `(tactic| (k_here; (with_reducible show wpAny _ _ (call (Value.ref 248) _) _ _ _); refine halt ?_))
local macro_rules | `(tactic| walk_at "my_useT") => `(tactic| (refine' CallSpec.use ?kS (by with_unfolding_all rfl) ?kB ?kF ?kX ?kN ?kT ?kf ?kk ?kH ?kd ?ku ?_; (case kN => k_asm); (case kB => exact below_caller _); (case kF => k_asm); (case kX => k_asm); (case kT => k_asm)))
local macro_rules | `(tactic| walk_at "my_usedT") => `(tactic| ((case kf => rfl); (case kk => rfl); (case kH => first | exact rfl | exact True.intro | assumption); (case kd => decide); (case ku => decide); k_whole; intro v' h' tk' news' F' N' hP'))
local macro_rules | `(tactic| walk_at "subscriptTail Name Slice ref ref") => `(tactic| (k_here; (with_reducible show wpAny _ _ (subscriptTail _ (PySem.Expr.Slice _ _ none _) (Value.ref _) (Value.ref _)) _ _ _); k_dflt (refine' kmk_slice ?F ?N ?l ?p ?q ?_ ?s ?t ?z; (case F => k_asm); (case N => k_asm); (case l => exact isListN (by k_asm) (by k_mem)); (case p => kmk_part); (case q => kmk_part); (case s => with_unfolding_all rfl); (case t => kmk_pure); (case z => (rw [List.size_toArray]; refine line_small ?_; first | omega | (simp only [List.length_cons, List.length_nil]; omega)))); intro D' h' F' N' l1; rw [kms_pick_eq] at N'))
local macro_rules | `(tactic| walk_at "compareOp NotEq ref ref") => `(tactic| (k_here; refine halt ?_))
local macro_rules | `(tactic| walk_at "call ref") => `(tactic| (k_here; (with_reducible show wpAny _ _ (call (Value.ref 190) _) _ _ _); refine halt ?_))
local macro_rules | `(tactic| walk_at "call builtin:list.index") => `(tactic| (k_here; refine halt ?_))
local macro_rules | `(tactic| walk_at "call type:dict") => `(tactic| (k_here; refine halt ?_))
local macro_rules | `(tactic| k_room) => `(tactic| ((try simp +zetaDelta only [depth_under_make, depth_under_kw, depth_in1, depth_deeper, depth_caller]); decide))
inductive MJ1 (w : World) (s1 : Shared) (ml : Addr) (mc rc : Obj) (K : Led) (rows : List Row) (M0 : Str → Option Value) (i : Nat) (m : Str → Option Value) (nw : Led) : Prop where
  | mk (mvs : List Value) (n : Nat) (u1 : Option Value) (u2 : Option Value) (K1 : Led) (h1_ : nw = (ml, listO mvs n) :: (s1.heap.objs.size + 1 + 1, mc) :: (s1.heap.objs.size + 1, rc) :: K1) (h2_ : m = setM (setM M0 (Str.ofString "row") u1) (Str.ofString "told") u2) (h3_ : Grown K K1) (h4_ : ∀ p ∈ K1, p.1 ≠ ml) (h5_ : ∀ p ∈ K1, p.1 ≠ s1.heap.objs.size + 1 + 1) (h6_ : ∀ p ∈ K1, p.1 ≠ s1.heap.objs.size + 1) (h7_ : Each (ModIn w K1) mvs (rows.take i)) : MJ1 w s1 ml mc rc K rows M0 i m nw
inductive MJ2 (s1 : Shared) (mt : Addr) (mc2 rc : Obj) (K9 : Led) (rs : List Row) (M2 : Str → Option Value) (i : Nat) (m : Str → Option Value) (nw : Led) : Prop where
  | mk (tvs : List Value) (n : Nat) (u1 : Option Value) (u2 : Option Value) (K2 : Led) (h1_ : nw = (mt, listO tvs n) :: (s1.heap.objs.size + 1 + 1, mc2) :: (s1.heap.objs.size + 1, rc) :: K2) (h2_ : m = setM (setM M2 (Str.ofString "module") u1) (Str.ofString "row") u2) (h3_ : Grown K9 K2) (h4_ : ∀ p ∈ K2, p.1 ≠ mt) (h5_ : ∀ p ∈ K2, p.1 ≠ s1.heap.objs.size + 1 + 1) (h6_ : ∀ p ∈ K2, p.1 ≠ s1.heap.objs.size + 1) (h7_ : StrsAre tvs ((rs.take i).map (·.1))) : MJ2 s1 mt mc2 rc K9 rs M2 i m nw
set_option maxHeartbeats 8000000 in
theorem law_holds : PySem.Challenge.rw_og0003_01.Holds := hd (by
  k_go0
  all_goals try k_fold
  dsimp only
  refine letX ?_
  intro Mz ez Az
  k_steps
  refine Halt.go ?_
  rename Fr _ _ _ _ => F0
  rename News _ _ _ _ => N0
  refine cutPool F0 N0 ?_ ?_
  · k_steps
    all_goals (
      rename News _ _ _ _ => NE
      rename Fr _ _ _ _ => FE
      refine Keep.mk (P := PoolP _ _ _ _ _) ?_
      exact ⟨_, _, _, _, _, _, _, _, rfl, rfl, mixed_ok2 _ _, FE, NE, two_off (by assumption)⟩)
  · clear F0 N0
    intro l x y tt u n h tk S F1 N1 hR
    (try k_fold)
    k_steps
    refine Halt.go ?_
    refine' CallSpec.use ?kS (by with_unfolding_all rfl) ?kB ?kF ?kX ?kN ?kT ?kf ?kk ?kH ?kd ?ku ?_
    case kN => exact N1
    case kB => exact below_caller _
    case kF => exact F1
    case kX => k_asm
    case kT => k_asm
    case kS => exact drawn_spec _ l x y tt u n _ hR S
    case kf => rfl
    case kk => rfl
    case kH => rfl
    case kd => decide
    case ku => decide
    intro v h2 tk2 news2 F2 N2 hJz
    (try k_fold)
    refine gG ?_
    intro Pz kz
    obtain ⟨rl, rvs, k, rows, rfl, hrl, hE, hok, hg⟩ := hJz
    refine kz ?_
    clear kz
    clear N1 F1
    rename Shared => s1
    rename World => w
    refine gG ?_
    intro Pz kz
    obtain ⟨K, NK, ka, kb, hrlK, hEK⟩ := topCells N2 hg ⟨_, by assumption⟩ ⟨_, by assumption⟩ hrl hE
    refine kz ?_
    clear kz
    clear N2 hrl hE hg
    have hrvl := hEK.1
    have hlen := hok.len
    have hHg : HOk none s1.heap := .inl rfl
    k_steps
    refine Halt.go ?_
    rename Fr _ _ _ _ => F3
    rename News _ _ _ _ => N3
    rename (Obj.data _ = Data.cell (some _)) => dr
    rename (_ ∧ _ ∧ _) => l3
    refine gG ?_
    intro Pz kz
    obtain ⟨ml, mc, rc, rfl, rfl, rfl, N4, la, lb, hKm, drc⟩ := law1 N3 l3 dr
    refine kz ?_
    clear kz
    clear N3 dr l3
    obtain ⟨M0, hM0, F4⟩ := frOut F3
    refine for_list (J := MJ1 w s1 ml mc rc K rows M0) hHg F4 N4 (.tail _ (.tail _ (.tail _ hrlK)))
      ⟨[], 0, M0 (Str.ofString "row"), (setM M0 (Str.ofString "row") (M0 (Str.ofString "row"))) (Str.ofString "told"), K, rfl, by rw [setM_self, setM_self], Grown.refl, hKm, ka, kb, by rw [List.take_zero]; exact .nil⟩ ?_ ?_ ?_
    · intro i m nw hJz
      (try k_fold)
      refine gG ?_
      intro Pz kz
      obtain ⟨mvs, n, u1, u2, K1, rfl, _, hg, _⟩ := hJz
      refine kz ?_
      clear kz
      exact .tail _ (.tail _ (.tail _ (hg.1 _ hrlK)))
    · intro i v m₁ nw I oI h tk hv hJ hnI hI₀ F6 N6
      (try k_fold)
      refine gG ?_
      intro Pz kz
      obtain ⟨mvs, nm, u1, u2, K1, rfl, rfl, hgK, km, ka1, kb1, hEm⟩ := hJ
      refine kz ?_
      clear kz
      refine gG ?_
      intro Pz kz
      obtain ⟨r, hr, a, t, l, vs, n', rfl, ha, hl, hs⟩ := hEK.2 i v hv
      refine kz ?_
      clear kz
      have hri := (List.getElem?_eq_some_iff.mp hr).1
      have hrm := List.mem_of_getElem? hr
      have F7 : Fr _ _ h _ := F6
      have N7 : News _ _ h _ := N6
      clear F6 N6 F3 F4 N4
      subst hM0
      have haK := hgK.1 _ ha
      have hlK := hgK.1 _ hl
      have i1 := neNat (hnI _ (.head _))
      have i2 := neNat (hnI _ (.tail _ (.head _)))
      have i3 := neNat (hnI _ (.tail _ (.tail _ (.head _))))
      have i4 : ∀ p ∈ K1, p.1 ≠ I := fun p hp => hnI p (.tail _ (.tail _ (.tail _ hp)))
      dsimp only at i1 i2 i3
      have i1_s := Ne.symm i1
      have i2_s := Ne.symm i2
      have i3_s := Ne.symm i3
      have hmvl := hEm.1
      have hvl := strs_len hs
      have h7 := hok.imps r hrm
      rw [List.length_take] at hmvl
      k_steps
      refine CSrc.mk hHg F7 N7 (.tail _ (.tail _ (.tail _ (.tail _ hlK)))) (line_small (by omega)) (fun j ys nw => Grown ([(I, oI), (ml, listO mvs nm), (s1.heap.objs.size + 1 + 1, mc), (s1.heap.objs.size + 1, rc)] ++ K1) nw ∧ Each (ImpOff w [I, ml, s1.heap.objs.size + 1 + 1, s1.heap.objs.size + 1] nw) ys (r.2.take j)) ⟨Grown.refl, by rw [List.take_zero]; exact .nil⟩ (fun j ys nw z => z.1.1 _ (.tail _ (.tail _ (.tail _ (.tail _ hlK))))) ?_ ?_
      · intro j v ys8 nw8 I2 oI2 C oC D8 m₂ h8 tk8 E' hv2 hI8 hC hx2 FE NE off9 ne9
        (try k_fold)
        refine gG ?_
        intro Pz kz
        obtain ⟨o, t, rfl, hxo⟩ := strs_get hs j v hv2
        refine kz ?_
        clear kz
        k_steps
        refine Halt.go ?_
        k_dflt walk_at "my_useT"
        case kS => exact imp_spec w _ _ _
        walk_at "my_usedT"
        rename (ImpP ..) => hP
        refine gG ?_
        intro Pz kz
        obtain ⟨xa, xd, t0, t1, t2, t3, t4, t5, rfl, m1, m2, rfl⟩ := hP
        refine kz ?_
        clear kz
        rename (News _ _ _ ((xa, _) :: _)) => NN
        have hg9 := Grown.cons (o := instObj 193 xd) (ne_cons (o := impO w t0 t1 t2 t3 t4 t5 o t) (Nat.ne_of_lt m2) fun p hp => Nat.ne_of_lt (Nat.lt_trans (m1 p hp) m2)) (Grown.cons (o := impO w t0 t1 t2 t3 t4 t5 o t) (lt_ne m1) Grown.refl)
        refine LCg.CompEnd.intro (by assumption) NN _ (in3 hg9) (LCg.Off3.of off_drop3) trivial ⟨hI8.1.drop3 off9.mem hg9, Each.step (hI8.2.mono fun _ _ z => z.mono fun p hp => mem_drop3' off9.mem hg9 hp) hxo ?_⟩
        have hB := off_lt (fun p hp => m1 p (.tail _ (.tail _ (.tail _ hp)))) (have4 hI8.1.1)
        have hB2 := off_lt (fun p hp => Nat.lt_trans (m1 p (.tail _ (.tail _ (.tail _ hp)))) m2) (have4 hI8.1.1)
        exact ⟨xa, xd, t0, t1, t2, t3, t4, t5, t, rfl, hB2, hB, mem_drop3 (nw := nw8) (oI := oI2) (oC := oC) (oD := LCg.lst ys8) (fun p hp => Nat.ne_of_lt (Nat.lt_trans (m1 p hp) m2)) (.head _), mem_drop3 (nw := nw8) (oI := oI2) (oC := oC) (oD := LCg.lst ys8) (fun p hp => Nat.ne_of_lt (m1 p hp)) (.tail _ (.head _))⟩
      · intro g ys nw hI8
        unfold LCg.FinE
        intro D8 h8 tk8 FE NE o9
        rw [List.take_of_length_le (by rw [hvl]; exact Nat.le_refl _)] at hI8
        refine gG ?_
        intro Pz kz
        obtain ⟨K2, NR, g2, off2, mem2, new2⟩ := regrow (M := [(I, oI), (ml, listO mvs nm), (s1.heap.objs.size + 1 + 1, mc), (s1.heap.objs.size + 1, rc)]) (X := K1) NE (Grown.cons (off1_ne o9) hI8.1) (fun p hp q => by
          simp only [List.map_cons, List.map_nil, List.mem_cons, List.not_mem_nil, or_false] at q
          rcases q with q | q | q | q
          · exact i4 p hp q
          · exact km p hp q
          · exact ka1 p hp q
          · exact kb1 p hp q)
        refine kz ?_
        clear kz
        simp only [List.cons_append, List.nil_append] at NR
        have hD8 : (D8, LCg.lst ys) ∈ K2 := new2 _ (.head _) (not_own (newNe' (M := [(I, oI), (ml, listO mvs nm), (s1.heap.objs.size + 1 + 1, mc), (s1.heap.objs.size + 1, rc)]) hI8.1 (off1_ne o9)))
        have hEi : Each (ImpIn w K2) ys r.2 := hI8.2.mono fun _ _ z => z.to fun p hp q => new2 p (.tail _ hp) q
        have hyl := hEi.1
        have off2' : ∀ p ∈ K2, p.1 ∉ ([I, ml, s1.heap.objs.size + 1 + 1, s1.heap.objs.size + 1] : List Addr) := off2
        clear NE N7 F7 hI8 mem2 new2 off2
        k_steps
        refine Halt.go ?_
        rename (_ ∧ _ ∧ _ ∧ _ ∧ AllLt _ _) => l3
        k_dflt walk_at "my_useT"
        case kS => exact mod_spec w _ _ _ _ _
        walk_at "my_usedT"
        rename (ModP ..) => hP
        refine gG ?_
        intro Pz kz
        obtain ⟨am, dm, t0, t1, t2, t3, t4, t5, rfl, m1, m2, rfl⟩ := hP
        refine kz ?_
        clear kz
        rename (News _ _ _ ((am, _) :: _)) => NM
        rename Fr _ _ _ _ => FM
        refine gG ?_
        intro Pz kz
        obtain ⟨K3, N3, g3, hA3, hB3, hC3, c1, c2, c3, c4⟩ := law2 NM m1 m2 l3 off2'
        refine kz ?_
        clear kz
        clear NM
        have hD3 := g3.1 _ hD8
        have hE3 := hEi.mono (R' := ImpIn w K3) fun _ _ z => z.mono g3.1
        have hmz : mvs.length ≤ 10000000 := by omega
        k_steps
        refine Halt.go ?_
        rename News _ _ _ _ => N5
        rename Fr _ _ _ _ => F5
        obtain ⟨Z, hZ, N5'⟩ := News.named N5
        clear N5
        have hKZ : ∀ p ∈ K3, p ∈ Z := fun p hp => by rw [hZ]; exact .tail _ (.tail _ (.tail _ (.tail _ hp)))
        have zM : (ml, listO (mvs ++ [Value.ref am]) (nm + 1)) ∈ Z := by rw [hZ]; exact .tail _ (.head _)
        k_dflt walk_at "my_useT"
        case kS => exact allimp_spec w am dm D8 _ t0 t1 t2 t3 t4 t5 t r ys _ Z (hKZ _ hA3) (hKZ _ hB3) (hKZ _ hD3) (hE3.mono fun _ _ z => z.mono hKZ) (by omega)
        walk_at "my_usedT"
        rename (AllP ..) => hP
        refine gG ?_
        intro Pz kz
        obtain ⟨hg6, lt, tvs, tn, rfl, hlt, hlv⟩ := hP
        refine kz ?_
        clear kz
        rename News _ _ _ _ => N6
        rename Fr _ _ _ _ => F6
        rename Led => Y6
        clear N5' F5
        have hEv : Each (ImpIn w Y6) tvs (needs r) := by
          have k1 := hE3.mono (R' := ImpIn w Y6) fun _ _ z => z.mono fun p hp => hg6.1 _ (hKZ p hp)
          rcases hlv with ⟨rfl, e⟩ | ⟨x, rfl, e, hx⟩
          · rw [e]; exact k1
          · rw [e]; exact k1.cons hx
        have hnl := needs_len r
        have htl := hEv.1
        k_steps
        rename Fr _ _ _ _ => F6
        rename News _ _ _ _ => N6
        refine CSrc.mk hHg F6 N6 hlt (line_small (by omega)) (fun j ys nw => Grown Y6 nw ∧ Each (fun v x => ∃ t, v = Value.str x t) ys ((needs r).take j)) ⟨Grown.refl, by rw [List.take_zero]; exact .nil⟩ (fun j ys nw z => z.1.1 _ hlt) ?_ ?_
        · intro j v ys8 nw8 I2 oI2 C oC D8 m₂ h8 tk8 E' hv2 hI8 hC hx2 FE NE off9 ne9
          (try k_fold)
          refine gG ?_
          intro Pz kz
          obtain ⟨x, hx', a2, d2, _, _, _, _, _, _, t, rfl, ha2, hd2⟩ := hEv.2 j v hv2
          refine kz ?_
          clear kz
          have ha' := hI8.1.1 _ ha2
          have hd' := hI8.1.1 _ hd2
          k_steps
          exact LCg.CompEnd.intro (by assumption) (by assumption) nw8 (fun _ h => h) off9 trivial ⟨hI8.1, hI8.2.step hx' ⟨_, rfl⟩⟩
        · intro g9 ys9 nw9 hI9
          unfold LCg.FinE
          intro D9 h9 tk9 F9 N9 o9
          rw [List.take_of_length_le (by rw [htl]; exact Nat.le_refl _)] at hI9
          have hs9 := hI9.2.strs
          have hg9 := (Grown.cons (o := LCg.lst ys9) (off1_ne o9) hI9.1)
          refine gG ?_
          intro Pz kz
          obtain ⟨Y9, hY9⟩ : ∃ Y : Led, Y = (D9, LCg.lst ys9) :: nw9 := ⟨_, rfl⟩
          refine kz ?_
          clear kz
          rw [← hY9] at N9 hg9
          have hD9 : (D9, LCg.lst ys9) ∈ Y9 := by rw [hY9]; exact .head _
          have ha9 := hg9.1 _ (hg6.1 _ (hKZ _ (g3.1 _ (g2.1 _ haK))))
          have hl9 := hg9.1 _ (hg6.1 _ (hKZ _ (g3.1 _ (g2.1 _ hlK))))
          clear N6 F6
          k_steps
          refine Halt.go ?_
          k_dflt walk_at "my_useT"
          case kS => exact needs_spec w a l r.1 t vs r.2 n' Y9 ha9 hl9 hs (by omega)
          walk_at "my_usedT"
          rename (Grown _ _ ∧ _) => hP
          refine gG ?_
          intro Pz kz
          obtain ⟨hg10, ln, nvs, nn, rfl, hln, hns⟩ := hP
          refine kz ?_
          clear kz
          rename News _ _ _ _ => N10
          rename Fr _ _ _ _ => F10
          rename Led => Y10
          clear N9 F9
          k_steps
          refine Halt.go ?_
          have hns' : StrsAre nvs (needs r) := hns
          refine neTexts N10 (hg10.1 _ hD9) hln hs9 hns' (by dsimp +zetaDelta only [Around.deeper, callerA]; decide) ?_
          rw [decide_eq_true rfl]
          have hlt10 := hg10.1 _ (hg9.1 _ hlt)
          have hl10 := hg10.1 _ hl9
          have ha10 := hg10.1 _ ha9
          have zM10 := hg10.1 _ (hg9.1 _ (hg6.1 _ zM))
          have hA10 := hg10.1 _ (hg9.1 _ (hg6.1 _ (hKZ _ hA3)))
          have hB10 := hg10.1 _ (hg9.1 _ (hg6.1 _ (hKZ _ hB3)))
          have hD10 := hg10.1 _ (hg9.1 _ (hg6.1 _ (hKZ _ hD3)))
          have htz : tvs.length ≤ 1000 := by omega
          have hvz : vs.length ≤ 1000 := by omega
          k_steps
          refine Halt.go ?_
          rename News _ _ _ _ => N11
          have hcut : kms_pick tvs.toArray.toList (some (((tvs.length : Nat) : Int) - ((vs.length : Nat) : Int))) none = ys := by
            rw [List.toList_toArray, hvl, ← hyl]; exact told_cut hlv
          rw [hcut] at N11
          refine neSame N11 (.head _) (.tail _ hD10) (by dsimp +zetaDelta only [Around.deeper, callerA]; decide) ?_
          have hgZ := hg6.trans (hg9.trans hg10)
          rw [hZ] at hgZ
          rcases hlv with ⟨htv, e⟩ | ⟨x, htv, e, hx⟩
          · have hlt2 : tvs.length = vs.length := by rw [htv]; omega
            k_steps
            rename News _ _ _ _ => NF
            rename Fr _ _ _ _ => FF
            refine gG ?_
            intro Pz kz
            obtain ⟨K4, NR4, g4, q4, mem4, new4⟩ := regrow (M := [(I, oI), (ml, listO (mvs ++ [Value.ref am]) (nm + 1)), (s1.heap.objs.size + 1 + 1, mc), (s1.heap.objs.size + 1, rc)]) (X := K3) (News.sub (N' := Y10) NF (fun p hp => .tail _ hp)) hgZ (off4 c1 c2 c3 c4)
            refine kz ?_
            clear kz
            simp only [List.cons_append, List.nil_append] at NR4
            exact TurnEnd.intro ((ml, listO (mvs ++ [Value.ref am]) (nm + 1)) :: (s1.heap.objs.size + 1 + 1, mc) :: (s1.heap.objs.size + 1, rc) :: K4) FF NR4 (.head _) (fun p hp => .tail _ hp) (ne_cons i1 (ne_cons i2 (ne_cons i3 (notmem_ne q4 (by simp)))))
              ⟨_, _, _, _, K4, rfl, setM22 _ _ _ _ _ _ _, hgK.trans (g2.trans (g3.trans g4)), notmem_ne q4 (by simp), notmem_ne q4 (by simp), notmem_ne q4 (by simp), (hEm.mono fun _ _ z => z.mono fun p hp => g4.1 _ (g3.1 _ (g2.1 _ hp))).step hr ⟨am, dm, t0, t1, t2, t3, t4, t5, t, D8, _, ys, _, rfl, g4.1 _ hA3, g4.1 _ hB3, g4.1 _ hD3, hE3.mono fun _ _ z => z.mono g4.1⟩⟩
          · have hlt2 : tvs.length = vs.length + 1 := by rw [htv, List.length_cons]; omega
            have hix : lidx tvs 0 = some x := by rw [htv]; rfl
            refine gG ?_
            intro Pz kz
            obtain ⟨xa, xd, x0, x1, x2, x3, x4, x5, xt, rfl, hxa, hxd⟩ := hx
            refine kz ?_
            clear kz
            have hxa10 := hg10.1 _ (hg9.1 _ hxa)
            have hxd10 := hg10.1 _ (hg9.1 _ hxd)
            k_steps
            refine Halt.go ?_
            k_dflt walk_at "my_useT"
            case kS => exact row_spec w xa xd x0 x1 x2 x3 x4 x5 xt _ _ (.tail _ hxa10) (.tail _ hxd10)
            walk_at "my_usedT"
            rename (∃ _ _, _) => hP
            refine gG ?_
            intro Pz kz
            obtain ⟨rw, ru, rfl, hrw, rfl⟩ := hP
            refine kz ?_
            clear kz
            rename News _ _ _ ((rw, _) :: _) => N12
            k_steps
            refine Halt.go ?_
            rename News _ _ _ _ => N13
            refine neRow N13 (.tail _ (.head _)) (.head _) (by dsimp +zetaDelta only [Around.deeper, callerA]; decide) ?_
            k_steps
            rename News _ _ _ _ => NF
            rename Fr _ _ _ _ => FF
            refine gG ?_
            intro Pz kz
            obtain ⟨K4, NR4, g4, q4, mem4, new4⟩ := regrow (M := [(I, oI), (ml, listO (mvs ++ [Value.ref am]) (nm + 1)), (s1.heap.objs.size + 1 + 1, mc), (s1.heap.objs.size + 1, rc)]) (X := K3) (News.sub (N' := Y10) NF (fun p hp => .tail _ (.tail _ (.tail _ hp)))) hgZ (off4 c1 c2 c3 c4)
            refine kz ?_
            clear kz
            simp only [List.cons_append, List.nil_append] at NR4
            exact TurnEnd.intro ((ml, listO (mvs ++ [Value.ref am]) (nm + 1)) :: (s1.heap.objs.size + 1 + 1, mc) :: (s1.heap.objs.size + 1, rc) :: K4) FF NR4 (.head _) (fun p hp => .tail _ hp) (ne_cons i1 (ne_cons i2 (ne_cons i3 (notmem_ne q4 (by simp)))))
              ⟨_, _, _, _, K4, rfl, setM22 _ _ _ _ _ _ _, hgK.trans (g2.trans (g3.trans g4)), notmem_ne q4 (by simp), notmem_ne q4 (by simp), notmem_ne q4 (by simp), (hEm.mono fun _ _ z => z.mono fun p hp => g4.1 _ (g3.1 _ (g2.1 _ hp))).step hr ⟨am, dm, t0, t1, t2, t3, t4, t5, t, D8, _, ys, _, rfl, g4.1 _ hA3, g4.1 _ hB3, g4.1 _ hD3, hE3.mono fun _ _ z => z.mono g4.1⟩⟩
    intro m₁ nw h3 tk3 hJz F6 N6
    (try k_fold)
    refine gG ?_
    intro Pz kz
    obtain ⟨mvs, nm, u1, u2, K1, rfl, rfl, hgK, km, ka1, kb1, hEm⟩ := hJz
    refine kz ?_
    clear kz
    have F7 : Fr _ _ h3 _ := F6
    have N7 : News _ _ h3 _ := N6
    clear F6 N6 F3 F4 N4
    subst hM0
    rw [List.take_of_length_le (by rw [hrvl]; exact Nat.le_refl _)] at hEm
    have hmvl := hEm.1
    (try dsimp only)
    k_steps
    refine wpAny_Try_except ?_
    k_steps
    refine Halt.go ?_
    obtain ⟨M1, hM1, F8⟩ := frOut F7
    obtain ⟨Y7, hY7, N8⟩ := News.named N7
    clear N7 F7
    have yM : (ml, listO mvs nm) ∈ Y7 := by rw [hY7]; exact .head _
    have yC : (s1.heap.objs.size + 1, rc) ∈ Y7 := by rw [hY7]; exact .tail _ (.tail _ (.head _))
    have yB : (s1.heap.objs.size + 1 + 1, mc) ∈ Y7 := by rw [hY7]; exact .tail _ (.head _)
    have hKY : ∀ p ∈ K1, p ∈ Y7 := fun p hp => by rw [hY7]; exact .tail _ (.tail _ (.tail _ hp))
    refine' CallSpecX.use ?kS (by with_unfolding_all rfl) ?kB ?kF ?kX ?kN ?kT ?kf ?kk ?kd ?ku ?_ ?_
    case kN => exact N8
    case kB => exact below_caller _
    case kF => exact F8
    case kX => k_asm
    case kT => k_asm
    case kS => exact order_spec w ml mvs nm rows Y7 yM (hEm.mono fun _ _ z => z.mono hKY) hok.len hok.imps hok.nams
    case kf => rfl
    case kk => rfl
    case kd => decide
    case ku => decide
    · intro v h9 tk9 Y9 F9 N9 hJz
      (try k_fold)
      refine gG ?_
      intro Pz kz
      obtain ⟨hg9, hnd, ol, ovs, on, S9, rfl, hol, hG, hNR, hEo⟩ := hJz
      refine kz ?_
      clear kz
      subst hM1
      clear F8 N8
      refine gG ?_
      intro Pz kz
      obtain ⟨rs, hRs, hSr, hin⟩ := each_rows hEo
      refine kz ?_
      clear kz
      have O := ordered_of hnd hG hNR hSr hin
      have hL := ordered_let hnd O
      have hovl := hRs.1
      have hrsl := O.len
      have yC9 := hg9.1 _ yC
      k_steps
      refine Halt.go ?_
      k_dflt walk_at "my_useT"
      case kS => exact islet_spec w rl rvs k rows Y9 (hg9.1 _ (hKY _ (hgK.1 _ hrlK))) (hEK.up fun p hp => hg9.1 _ (hKY _ (hgK.1 _ hp))) hok.len hok.imps
      walk_at "my_usedT"
      rename (_ ∧ Grown _ _) => hP
      obtain ⟨rfl, hg10⟩ := hP
      rw [hL]
      rename News _ _ _ _ => N10
      rename Fr _ _ _ _ => F10
      have hgA := hg9.trans hg10
      rw [hY7] at hgA
      have oM : ∀ p ∈ ((ml, listO mvs nm) :: K1 : Led), p.1 ∉ ([s1.heap.objs.size + 1 + 1, s1.heap.objs.size + 1] : List Addr) := off2 (ne_cons (Nat.ne_of_gt la) ka1) (ne_cons (Nat.ne_of_gt lb) kb1)
      have hcm : ∃ c, mc.data = .cell c := ⟨_, by assumption⟩
      refine gG ?_
      intro Pz kz
      obtain ⟨K9, NR, g9, q9, mem9, new9⟩ := regrow (M := [(s1.heap.objs.size + 1 + 1, mc), (s1.heap.objs.size + 1, rc)]) (X := (ml, listO mvs nm) :: K1) N10 (hgA.swap (fun p hp => by
        revert p hp; (try simp only [List.cons_append, List.nil_append]); walk_at "my_sub") (fun p hp => by
        revert p hp; (try simp only [List.cons_append, List.nil_append]); walk_at "my_sub")) oM
      refine kz ?_
      clear kz
      simp only [List.cons_append, List.nil_append] at NR
      have hC9 := noCell_own mem9 (two_cells hcm ⟨_, drc⟩)
      have hol9 : (ol, listO ovs on) ∈ K9 := hC9 _ (hg10.1 _ hol) fun _ z => nomatch z
      have hRs9 : Each (ModIn w K9) ovs rs := hRs.mono fun _ _ z => z.monoC fun p hp c => hC9 _ (hg10.1 _ hp) c
      have hrl9 : (rl, listO rvs k) ∈ K9 := g9.1 _ (.tail _ (hgK.1 _ hrlK))
      have hEK9 : Each (RowIn K9) rvs rows := hEK.up fun p hp => g9.1 _ (.tail _ (hgK.1 _ hp))
      have k91 : ∀ p ∈ K9, p.1 ≠ s1.heap.objs.size + 1 + 1 := notmem_ne q9 (by simp)
      have k92 : ∀ p ∈ K9, p.1 ≠ s1.heap.objs.size + 1 := notmem_ne q9 (by simp)
      have hovz : ovs.length ≤ 1000 := by omega
      have hrvz : rvs.length ≤ 1000 := by omega
      clear N10 hgA oM mem9 new9 hg9 hg10 hol hRs hEo
      k_steps
      refine Halt.go ?_
      rename Fr _ _ _ _ => F3
      rename News _ _ _ _ => N3
      rename (Obj.data _ = Data.cell (some _)) => dm0
      rename (_ ∧ _ ∧ AllLt _ _) => l3
      refine gG ?_
      intro Pz kz
      obtain ⟨mt, mc2, rfl, rfl, N4, la2, lb2, hKm2, dmc⟩ := law3 N3 l3 dm0
      refine kz ?_
      clear kz
      clear N3 dm0 l3
      obtain ⟨M2, hM2, F4⟩ := frOut F3
      refine for_list (J := MJ2 s1 mt mc2 rc K9 rs M2) hHg F4 N4 (.tail _ (.tail _ (.tail _ hol9)))
        ⟨[], 0, M2 (Str.ofString "module"), (setM M2 (Str.ofString "module") (M2 (Str.ofString "module"))) (Str.ofString "row"), K9, rfl, by rw [setM_self, setM_self], Grown.refl, hKm2, k91, k92, by rw [List.take_zero]; exact .nil⟩ ?_ ?_ ?_
      · intro i m nw hJz
        (try k_fold)
        refine gG ?_
        intro Pz kz
        obtain ⟨tvs, n, u1, u2, K2, rfl, _, hg, _⟩ := hJz
        refine kz ?_
        clear kz
        exact .tail _ (.tail _ (.tail _ (hg.1 _ hol9)))
      · intro i v m₁ nw I oI h tk hv hJ hnI hI₀ F6 N6
        (try k_fold)
        refine gG ?_
        intro Pz kz
        obtain ⟨tvs, nt, u1, u2, K2, rfl, rfl, hgK2, ko, ka2, kb2, hTs⟩ := hJ
        refine kz ?_
        clear kz
        refine gG ?_
        intro Pz kz
        obtain ⟨r, hr, am, dm, t0, t1, t2, t3, t4, t5, tm, il, dl, ivs, im, rfl, hA, hD, hI, hIv⟩ := hRs9.2 i v hv
        refine kz ?_
        clear kz
        have hrr := O.inn r (List.mem_of_getElem? hr)
        have hri := (List.getElem?_eq_some_iff.mp hr).1
        obtain ⟨i', hi'⟩ := List.getElem?_of_mem hrr
        have hri' := (List.getElem?_eq_some_iff.mp hi').1
        obtain ⟨rv, hrv⟩ : ∃ rv, rvs[i']? = some rv := ⟨_, List.getElem?_eq_getElem (by omega)⟩
        refine gG ?_
        intro Pz kz
        obtain ⟨r', hr', a', ta, l', vs', n', rfl, ha', hl', hs'⟩ := hEK9.2 i' _ hrv
        refine kz ?_
        clear kz
        rw [hi'] at hr'
        cases hr'
        have F7 : Fr _ _ h _ := F6
        have N7 : News _ _ h _ := N6
        clear F6 N6 F3 F4 N4
        subst hM2
        have hA2 := hgK2.1 _ hA
        have hD2 := hgK2.1 _ hD
        have ha2 := hgK2.1 _ ha'
        have hl2 := hgK2.1 _ hl'
        have hrl2 := hgK2.1 _ hrl9
        have i1 := neNat (hnI _ (.head _))
        have i2 := neNat (hnI _ (.tail _ (.head _)))
        have i3 := neNat (hnI _ (.tail _ (.tail _ (.head _))))
        have i4 : ∀ p ∈ K2, p.1 ≠ I := fun p hp => hnI p (.tail _ (.tail _ (.tail _ hp)))
        dsimp only at i1 i2 i3
        have i1_s := Ne.symm i1
        have i2_s := Ne.symm i2
        have i3_s := Ne.symm i3
        have hvl' := strs_len hs'
        have h7 := hok.imps r hrr
        have htl := strs_len hTs
        rw [List.length_map, List.length_take] at htl
        k_steps
        refine CSrc.mk hHg F7 N7 (.tail _ (.tail _ (.tail _ (.tail _ hrl2)))) (line_small (by omega)) (fun j ys nw => Grown ([(I, oI), (mt, listO tvs nt), (s1.heap.objs.size + 1 + 1, mc2), (s1.heap.objs.size + 1, rc)] ++ K2) nw ∧ Each (fun v x => ∃ t, v = Value.str x t) ys ((rows.map (·.1)).take j)) ⟨Grown.refl, by rw [List.take_zero]; exact .nil⟩ (fun j ys nw z => z.1.1 _ (.tail _ (.tail _ (.tail _ (.tail _ hrl2))))) ?_ ?_
        · intro j v ys8 nw8 I2 oI2 C oC D8 m₂ h8 tk8 E' hv2 hI8 hC hx2 FE NE off9 ne9
          (try k_fold)
          refine gG ?_
          intro Pz kz
          obtain ⟨q, hq, a, t, l, vs, n', rfl, ha, hl, hs⟩ := hEK9.2 j v hv2
          refine kz ?_
          clear kz
          have ha8 := hI8.1.1 _ (.tail _ (.tail _ (.tail _ (.tail _ (hgK2.1 _ ha)))))
          k_steps
          exact LCg.CompEnd.intro (by assumption) (by assumption) nw8 (fun _ h => h) off9 trivial ⟨hI8.1, hI8.2.step (by rw [List.getElem?_map, hq]; rfl) ⟨_, rfl⟩⟩
        · intro g ys nw hI8
          unfold LCg.FinE
          intro D8 h8 tk8 FE NE o9
          rw [List.take_of_length_le (by rw [List.length_map, hrvl]; exact Nat.le_refl _)] at hI8
          have hs8 := hI8.2.strs
          refine gG ?_
          intro Pz kz
          obtain ⟨K3, NR, g3, q3, mem3, new3⟩ := regrow (M := [(I, oI), (mt, listO tvs nt), (s1.heap.objs.size + 1 + 1, mc2), (s1.heap.objs.size + 1, rc)]) (X := K2) NE (Grown.cons (off1_ne o9) hI8.1) (off4 i4 ko ka2 kb2)
          refine kz ?_
          clear kz
          simp only [List.cons_append, List.nil_append] at NR
          have hD8 : (D8, LCg.lst ys) ∈ K3 := new3 _ (.head _) (not_own (newNe' (M := [(I, oI), (mt, listO tvs nt), (s1.heap.objs.size + 1 + 1, mc2), (s1.heap.objs.size + 1, rc)]) hI8.1 (off1_ne o9)))
          have hA3 := g3.1 _ hA2
          have hD3 := g3.1 _ hD2
          have ha3 := g3.1 _ ha2
          have hl3 := g3.1 _ hl2
          have hrl3 := g3.1 _ hrl2
          have hysl := strs_len hs8
          rw [List.length_map] at hysl
          clear NE N7 F7 mem3 new3
          k_steps
          refine Halt.go ?_
          rename News _ _ _ _ => N9
          have hxi : (rows.map (·.1))[i']? = some r.1 := by rw [List.getElem?_map, hi']; rfl
          refine indexTexts (i := i') N9 (.tail _ (.tail _ (.tail _ (.tail _ hD8)))) hs8 hxi (take_nodup hnd hxi) (by omega) ?_
          have hnew : r.1 ∉ (rs.take i).map (·.1) := O.new i r hr
          have hrvz : rvs.length ≤ 16777216 := by omega
          k_steps
          refine Halt.go ?_
          have hgS : ∀ p ∈ K3, p ∈ ((I, oI) :: (mt, listO tvs nt) :: (s1.heap.objs.size + 1 + 1, mc2) :: (s1.heap.objs.size + 1, rc) :: K3 : Led) := fun p hp => .tail _ (.tail _ (.tail _ (.tail _ hp)))
          k_dflt walk_at "my_useT"
          case kS => exact needs_spec w a' l' r.1 ta vs' r.2 n' ((I, oI) :: (mt, listO tvs nt) :: (s1.heap.objs.size + 1 + 1, mc2) :: (s1.heap.objs.size + 1, rc) :: K3) (hgS _ ha3) (hgS _ hl3) hs' (by omega)
          walk_at "my_usedT"
          rename (Grown _ _ ∧ _) => hP
          refine gG ?_
          intro Pz kz
          obtain ⟨hgN, ln, nvs, nn, rfl, hln, hns⟩ := hP
          refine kz ?_
          clear kz
          have hns' : StrsAre nvs (needs r) := hns
          have hnvl := strs_len hns'
          have hnl := needs_len r
          rename News _ _ _ _ => NN
          rename Fr _ _ _ _ => FN
          rename Led => YN
          refine CSrcT.mk hHg FN NN hln (line_small (by omega)) (fun j ys nw => Grown YN nw ∧ ys = []) ⟨Grown.refl, rfl⟩ (fun j ys nw z => z.1.1 _ hln) ?_ ?_
          · intro j v ys8 nw8 I2 oI2 C oC D9 m₂ h8 tk8 E' hv2 hI8 hC hx2 FE NE off9 ne9
            (try k_fold)
            refine gG ?_
            intro Pz kz
            obtain ⟨o, to, rfl, hxo⟩ := strs_get hns' j v hv2
            refine kz ?_
            clear kz
            obtain ⟨hgI, rfl⟩ := hI8
            have hoN := List.mem_of_getElem? hxo
            have cR := hgI.1 _ (hgN.1 _ (.tail _ (.tail _ (.tail _ (.head _)))))
            have cM := hgI.1 _ (hgN.1 _ (.tail _ (.tail _ (.head _))))
            have cT := hgI.1 _ (hgN.1 _ (.tail _ (.head _)))
            have cL := hgI.1 _ (hgN.1 _ (hgS _ hrl3))
            k_steps
            refine Halt.go ?_
            obtain ⟨prs, hpk, hpa⟩ := row_pairs hEK9
            have up9 : ∀ p ∈ K9, p ∈ nw8 := fun p hp => hgI.1 _ (hgN.1 _ (hgS _ (g3.1 _ (hgK2.1 _ hp))))
            have hpl : prs.length = rvs.length := by
              have := congrArg List.length hpk
              rw [List.length_map, List.length_map] at this
              omega
            refine dictPairs (prs := prs) FE NE (Top.nolimit (by k_asm)) hHg (.tail _ (.tail _ (.tail _ cL))) hpl (by omega) (fun j v hv => ?_) ?_
            · refine gG ?_
              intro Pz kz
              obtain ⟨a, k, t, x, e1, e2, e3⟩ := hpa j v hv
              refine kz ?_
              clear kz
              exact ⟨a, k, t, x, e1, e2, .tail _ (.tail _ (.tail _ (up9 _ e3)))⟩
            intro Dd od h11 tk11 F11 N11 l11 lo11 hd11
            (try k_fold)
            rw [storeAll_new prs [] (by rw [List.nil_append, hpk]; exact hnd), List.nil_append] at hd11
            by_cases hio : o ∈ rows.map (·.1)
            · obtain ⟨vv, hvv⟩ := pair_val (prs := prs) (x := o) (by rw [hpk]; exact hio)
              have hmet := O.met i r hr o hoN hio
              k_steps
              · exact LCg.CompEnd.intro (by assumption) (by assumption) nw8 (fun _ h => .tail _ h) off9 trivial ⟨hgI, rfl⟩
              · exact absurd hmet (by assumption)
            · have hvv := pair_none (prs := prs) (x := o) (by rw [hpk]; exact hio)
              k_steps
              exact LCg.CompEnd.intro (by assumption) (by assumption) nw8 (fun _ h => .tail _ h) off9 trivial ⟨hgI, rfl⟩
          · intro g10 ys10 nw10 ⟨hg10, hnil⟩
            subst hnil
            unfold LCg.FinE
            intro D10 h10 tk10 F10 N10 o10
            refine gG ?_
            intro Pz kz
            obtain ⟨K5, NR5, g5, q5, mem5, new5⟩ := regrow (M := [(I, oI), (mt, listO tvs nt), (s1.heap.objs.size + 1 + 1, mc2), (s1.heap.objs.size + 1, rc)]) (X := K3) N10 (Grown.cons (off1_ne o10) (hgN.trans hg10)) q3
            refine kz ?_
            clear kz
            simp only [List.cons_append, List.nil_append] at NR5
            have hD10 : (D10, LCg.lst []) ∈ K5 := new5 _ (.head _) (not_own (newNe' (M := [(I, oI), (mt, listO tvs nt), (s1.heap.objs.size + 1 + 1, mc2), (s1.heap.objs.size + 1, rc)]) (hgN.trans hg10) (off1_ne o10)))
            have k51 : ∀ p ∈ K5, p.1 ≠ I := notmem_ne q5 (by simp)
            have k52 : ∀ p ∈ K5, p.1 ≠ mt := notmem_ne q5 (by simp)
            have k53 : ∀ p ∈ K5, p.1 ≠ s1.heap.objs.size + 1 + 1 := notmem_ne q5 (by simp)
            have k54 : ∀ p ∈ K5, p.1 ≠ s1.heap.objs.size + 1 := notmem_ne q5 (by simp)
            have hA5 := g5.1 _ hA3
            have hD5 := g5.1 _ hD3
            have htz : tvs.length ≤ 10000000 := by omega
            clear N10 NN FN mem5 new5
            k_steps
            refine Halt.go ?_
            rename News _ _ _ _ => N11
            refine neNil N11 (.tail _ (.tail _ (.tail _ (.tail _ (.tail _ hD10))))) (.head _) (by dsimp +zetaDelta only [Around.deeper, callerA]; decide) ?_
            rw [decide_eq_true rfl]
            k_steps
            rename News _ _ _ _ => NZ
            rename Fr _ _ _ _ => FZ
            exact TurnEnd.intro ((mt, listO (tvs ++ [Value.str r.1 tm]) (nt + 1)) :: (s1.heap.objs.size + 1 + 1, mc2) :: (s1.heap.objs.size + 1, rc) :: K5) FZ NZ (.tail _ (.head _)) (fun p hp => .tail _ (.tail _ hp)) (ne_cons i1 (ne_cons i2 (ne_cons i3 k51)))
              ⟨_, _, _, _, K5, rfl, setM22 _ _ _ _ _ _ _, hgK2.trans (g3.trans g5), k52, k53, k54, by rw [take_snoc hr, List.map_append]; exact strsCat hTs (.cons _ _ .nil)⟩
      · intro m₁ nw h12 tk12 hJz F12 N12
        (try k_fold)
        refine gG ?_
        intro Pz kz
        obtain ⟨tvs, nt, u1, u2, K2, rfl, rfl, _⟩ := hJz
        refine kz ?_
        clear kz
        have F13 : Fr _ _ h12 _ := F12
        have N13 : News _ _ h12 _ := N12
        clear F12 N12 F3 F4 N4
        subst hM2
        (try dsimp only)
        k_steps
    · intro hBad e g h9 tk9 F9 hR9 hs9
      (try k_fold)
      subst hM1
      clear F8 N8
      have hno : isLet rows = false := Bool.eq_false_iff.mpr fun q => not_bad q hBad
      refine' caughtXC (below_caller _) F9 hs9 hR9 ?kX ?kT ?kE ?_
      case kX => k_asm
      case kT => k_asm
      case kE => k_is
      intro h10 oe evs F10 N10 e1 e2 e3 e4 e5 e6
      (try k_fold)
      k_steps
      refine Halt.go ?_
      refine' CallSpecH.use ?kS (by with_unfolding_all rfl) ?kB ?kF ?kX ?kN ?kT ?kf ?kk ?kH ?kd ?ku ?_
      case kN => exact N10
      case kB => exact below_caller _
      case kF => exact F10
      case kX => k_asm
      case kT => k_asm
      case kS => exact islet_specH w rl rvs k rows Y7 (hKY _ (hgK.1 _ hrlK)) (hEK.up fun p hp => hKY _ (hgK.1 _ hp)) hok.len hok.imps
      case kf => rfl
      case kk => rfl
      case kd => dsimp only [Around.deeper, Around.mark, callerA]; decide
      case ku => dsimp only [Around.deeper, Around.mark, callerA]; decide
      case kH =>
        refine ⟨.inr ⟨e, oe, evs, rfl, e4, e5, e6⟩, fun e' he p hp q => ?_⟩
        cases he
        exact e3 p hp q
      rintro v h11 tk11 Y11 F11 N11 ⟨rfl, hg11⟩
      rw [hno]
      k_steps)
end
end Mine.A
theorem PySem.Challenge.cw_og0003_01_holds : PySem.Challenge.rw_og0003_01.Holds := by
  exact Mine.A.law_holds
