import PyProof.Rows.All
import Wide.All
import OpenK.AllK
import Wide.FinOn
import PySem.Challenge.RW_pq0445_01

section
open PySem PySem.W PyProof.Rows
theorem Mine.dup {T H : Prop} (_ : T) (_ : T) (h : H) : H := h
theorem Mine.hd.tw10458740792067480800 : True := trivial
theorem Mine.hd.tw2245551393439186801 : True := trivial
theorem Mine.hd.tw921402611603131450 : True := trivial
theorem Mine.hd.tw15790720579355451973 : True := trivial
theorem Mine.hd.tw6407587892757256292 : True := trivial
theorem Mine.hd.tw4494801613693538912 : True := trivial
theorem Mine.hd.tw6409707207589635457 : True := trivial
theorem Mine.hd.tw3451239065008710300 : True := trivial
theorem Mine.hd.tw10727248033764811480 : True := trivial
theorem Mine.hd.tw17650839729002327288 : True := trivial
theorem Mine.hd.tw2930668341846507884 : True := trivial
theorem Mine.hd.tw15616948245753086127 : True := trivial
theorem Mine.hd.tw10957212852122400357 : True := trivial
theorem Mine.hd.tw6785817131721698500 : True := trivial
theorem Mine.hd.tw15967140613478806237 : True := trivial
theorem Mine.hd.tw1997569388931296116 : True := trivial
theorem Mine.hd.tw6291416237084387574 : True := trivial
theorem Mine.hd.tw11232374478483605306 : True := trivial
theorem Mine.hd.tw5373601922739893978 : True := trivial
theorem Mine.hd.tw17177331786930743035 : True := trivial
theorem Mine.hd.tw11465210709893060100 : True := trivial
theorem Mine.hd.tw5978321128707920903 : True := trivial
theorem Mine.hd.tw22551697357593593 : True := trivial
theorem Mine.hd.tw11319097763535126812 : True := trivial
theorem Mine.hd.tw10613586106871329381 : True := trivial
theorem Mine.hd.tw2867327485932766208 : True := trivial
theorem Mine.hd.tw1011335219593555734 : True := trivial
theorem Mine.hd.tw10601615944963115059 : True := trivial
theorem Mine.hd.tw14103535550066685397 : True := trivial
theorem Mine.hd.tw11136197038861592535 : True := trivial
theorem Mine.hd.tw5961118342813265553 : True := trivial
theorem Mine.hd.tw13910297938031418929 : True := trivial
theorem Mine.hd.tw18300207936620678264 : True := trivial
theorem Mine.hd.tw8343274005884668182 : True := trivial
theorem Mine.hd.tw5148922909946612681 : True := trivial
theorem Mine.hd.tw3229955645248102723 : True := trivial
theorem Mine.hd.tw10792051664901133789 : True := trivial
theorem Mine.hd.tw7754304195085646258 : True := trivial
theorem Mine.hd.tw4272726840584523970 : True := trivial
theorem Mine.hd.tw2114630138375439770 : True := trivial
theorem Mine.hd.tw11893437276241958245 : True := trivial
theorem Mine.hd.tw16194383521188589630 : True := trivial
theorem Mine.hd.tw13267510147771200024 : True := trivial
theorem Mine.hd.tw2708950531961675432 : True := trivial
theorem Mine.hd.tw4467709538675631592 : True := trivial
theorem Mine.hd.tw6442067068224118133 : True := trivial
theorem Mine.hd.tw2068664650715991707 : True := trivial
theorem Mine.hd.tw9719896912496429819 : True := trivial
theorem Mine.hd.tw11660266114150955751 : True := trivial
theorem Mine.hd.tw17311223219408574766 : True := trivial
theorem Mine.hd.tw4086058157674990017 : True := trivial
theorem Mine.hd.tw12271959270614036898 : True := trivial
theorem Mine.hd.tw6411954120941647267 : True := trivial
theorem Mine.hd.tw16828841361933241965 : True := trivial
theorem Mine.hd.tw15089522573102190283 : True := trivial
theorem Mine.hd.tw12070051907170230399 : True := trivial
theorem Mine.hd.tw17950676927832955104 : True := trivial
theorem Mine.hd.tw464777395874653626 : True := trivial
theorem Mine.hd.tw4402725079659364252 : True := trivial
theorem Mine.hd.tw12173100003817136821 : True := trivial
theorem Mine.hd.tw14620637471214046174 : True := trivial
theorem Mine.hd.tw3219085151875037572 : True := trivial
theorem Mine.hd.tw26425463804135960 : True := trivial
theorem Mine.hd.tw13225837485096350037 : True := trivial
theorem Mine.hd.tw16634568088961857937 : True := trivial
theorem Mine.hd.tw15527848837575444561 : True := trivial
theorem Mine.hd.tw11953376511379268794 : True := trivial
theorem Mine.hd.tw18103342009636024947 : True := trivial
theorem Mine.hd.tw16259696140248634718 : True := trivial
theorem Mine.hd.tw16477043939570097188 : True := trivial
theorem Mine.hd.tw10170382586518783626 : True := trivial
theorem Mine.hd.tw13770079208771991547 : True := trivial
theorem Mine.hd.tw9277588360372424766 : True := trivial
theorem Mine.hd.tw15759970867653108152 : True := trivial
theorem Mine.hd.tw1413172679324656950 : True := trivial
theorem Mine.hd.tw6767318904944593275 : True := trivial
theorem Mine.hd.tw922143313871775805 : True := trivial
theorem Mine.hd.tw17673860158736603733 : True := trivial
theorem Mine.hd.tw3646829019195819677 : True := trivial
theorem Mine.hd.tw6293948785866598258 : True := trivial
theorem Mine.hd.tw10258999931320997221 : True := trivial
theorem Mine.hd.tw12023040214023829324 : True := trivial
theorem Mine.hd.tw6196171512934965099 : True := trivial
theorem Mine.hd.tw16945582573551092051 : True := trivial
theorem Mine.hd.tw8735263284916673568 : True := trivial
theorem Mine.hd.tw12901994302517312135 : True := trivial
theorem Mine.hd.tw16345102440705955213 : True := trivial
theorem Mine.hd.tw17087091549796120035 : True := trivial
theorem Mine.hd.tw7752767780024739350 : True := trivial
theorem Mine.hd.tw9960721518486171458 : True := trivial
theorem Mine.hd.tw978945382295711627 : True := trivial
theorem Mine.hd.tw8959176491354863721 : True := trivial
theorem Mine.hd.tw11917015161858427179 : True := trivial
theorem Mine.hd.tw8716120427605611371 : True := trivial
theorem Mine.hd.tw13828106393651249627 : True := trivial
theorem Mine.hd.tw3350844169311001129 : True := trivial
theorem Mine.hd.tw6820862383352777685 : True := trivial
theorem Mine.hd.tw16240987189780228909 : True := trivial
theorem Mine.hd.tw11210553801493137410 : True := trivial
theorem Mine.hd.tw7028611270464810887 : True := trivial
theorem Mine.hd.tw16432713993328977331 : True := trivial
theorem Mine.hd.tw17574625026820762457 : True := trivial
theorem Mine.hd.tw8268277133935991078 : True := trivial
theorem Mine.hd.tw10390121572340787421 : True := trivial
theorem Mine.hd.tw701787995468756871 : True := trivial
theorem Mine.hd.tw6305734824756694309 : True := trivial
theorem Mine.hd.tw8458067239894703972 : True := trivial
theorem Mine.hd.tw6276725880618359904 : True := trivial
theorem Mine.hd.tw17672654358674132775 : True := trivial
theorem Mine.hd.tw15595854959937240912 : True := trivial
theorem Mine.hd.tw16056359734778111409 : True := trivial
theorem Mine.hd.tw4360684699965382250 : True := trivial
theorem Mine.hd.tw17542962492245011380 : True := trivial
theorem Mine.hd.tw2195365466389143174 : True := trivial
theorem Mine.hd.tw16037735763661986305 : True := trivial
theorem Mine.hd.tw3493717111155160527 : True := trivial
theorem Mine.hd.tw3530705653197291679 : True := trivial
theorem Mine.hd.tw7540655947842036084 : True := trivial
theorem Mine.hd.tw5511420028821071320 : True := trivial
theorem Mine.hd.tw6555240042291301478 : True := trivial
theorem Mine.hd.tw15833661619300960221 : True := trivial
theorem Mine.hd.tw17681399029576232318 : True := trivial
theorem Mine.hd.tw8457440626546761165 : True := trivial
theorem Mine.hd.tw13330244855972007585 : True := trivial
set_option maxRecDepth 100000 in
set_option maxHeartbeats 8000000 in
theorem Mine.hd : ∃ (q : Program) (loose : List Str) (lv : List (Str × WData)) (K : Params → Frag) (d : DefRec) (kwd : List (Str × PySem.Expr)),
    WalkO q loose (XL q lv) (InK K) PySem.Challenge.rw_pq0445_01.row.toRowW d kwd (fun f vs => PySem.call f vs) → PySem.Challenge.rw_pq0445_01.Holds := by
  exact ⟨_, _, _, _, _, _, fun walk => by
    refine Mine.dup walk ?hc ?gg
    exact walk
    w_on; o_law; k_head; (case hw => w_witness2)⟩


theorem Mine.bar : Mine.hd.heap_1_39 = Mine.hd.heap_1_39 := rfl
end

section
open PySem PySem.W PyProof.Rows
theorem Mine.top.tw4213018616267185653 : True := trivial
theorem Mine.top.tw2464713573024523455 : True := trivial
theorem Mine.top.tw17081178143035459574 : True := trivial
theorem Mine.top.tw5667650583090716360 : True := trivial
theorem Mine.top.tw14823308797102314842 : True := trivial
theorem Mine.top.tw427269002284569659 : True := trivial
theorem Mine.top.tw1869187583165140508 : True := trivial
theorem Mine.top.tw908825868028484722 : True := trivial
theorem Mine.top.tw1814787853859245837 : True := trivial
theorem Mine.top.tw13369591340354186047 : True := trivial
theorem Mine.top.tw6812286434817487243 : True := trivial
theorem Mine.top.tw16439428074185983240 : True := trivial
theorem Mine.top.tw16058212318047004132 : True := trivial
theorem Mine.top.tw8735323631387419056 : True := trivial
theorem Mine.top.tw8645369167282567922 : True := trivial
theorem Mine.top.tw8689318265317240412 : True := trivial
theorem Mine.top.tw13359135706311490777 : True := trivial
theorem Mine.top.tw2985252069258134486 : True := trivial
theorem Mine.top.tw5088376156974544275 : True := trivial
theorem Mine.top.tw1149218181149386328 : True := trivial
theorem Mine.top.tw18064794426631996164 : True := trivial
theorem Mine.top.tw7847650389618582240 : True := trivial
theorem Mine.top.tw14901070454687303710 : True := trivial
theorem Mine.top.tw16759092144687519636 : True := trivial
theorem Mine.top.tw15976228082101565994 : True := trivial
theorem Mine.top.tw12819366960792805191 : True := trivial
theorem Mine.top.tw5476889619067714990 : True := trivial
theorem Mine.top.tw17810072253543177317 : True := trivial
theorem Mine.top.tw11424894988859586721 : True := trivial
theorem Mine.top.tw2822501910515967889 : True := trivial
theorem Mine.top.tw2731995056826638727 : True := trivial
theorem Mine.top.tw9063741608606530840 : True := trivial
theorem Mine.top.tw4671429814451907529 : True := trivial
theorem Mine.top.tw11613256710310857696 : True := trivial
theorem Mine.top.tw11459358961799972967 : True := trivial
theorem Mine.top.tw14349089067433371257 : True := trivial
theorem Mine.top.tw4655869559712951663 : True := trivial
theorem Mine.top.tw9601329371697537090 : True := trivial
theorem Mine.top.tw16782997733028217545 : True := trivial
theorem Mine.top.tw7990429038631628895 : True := trivial
theorem Mine.top.tw72247145696351765 : True := trivial
theorem Mine.top.tw16900427199656544559 : True := trivial
theorem Mine.top.tw2057334267981633021 : True := trivial
theorem Mine.top.tw1886144042066472794 : True := trivial
theorem Mine.top.tw6286779285267259847 : True := trivial
theorem Mine.top.tw5766051744304087583 : True := trivial
theorem Mine.top.tw14112864150409733573 : True := trivial
theorem Mine.top.tw5105846836358774362 : True := trivial
theorem Mine.top.tw9800703332001039478 : True := trivial
theorem Mine.top.tw14608685727046917156 : True := trivial
theorem Mine.top.tw14917401599646851644 : True := trivial
theorem Mine.top.tw705360758644809490 : True := trivial
theorem Mine.top.tw5597187220613765494 : True := trivial
theorem Mine.top.tw10090393231696489298 : True := trivial
theorem Mine.top.tw2732273902793177162 : True := trivial
theorem Mine.top.tw11430207588045935325 : True := trivial
theorem Mine.top.tw2249405535684624136 : True := trivial
theorem Mine.top.tw5303079699428457377 : True := trivial
theorem Mine.top.tw6187478851450931391 : True := trivial
theorem Mine.top.tw15878805988109762761 : True := trivial
theorem Mine.top.tw18086089286151905521 : True := trivial
theorem Mine.top.tw13120753694373217308 : True := trivial
theorem Mine.top.tw5155950481276406077 : True := trivial
theorem Mine.top.tw2218668502564051296 : True := trivial
theorem Mine.top.tw16541100652227675460 : True := trivial
theorem Mine.top.tw11279390925490393535 : True := trivial
theorem Mine.top.tw17886615442053742456 : True := trivial
theorem Mine.top.tw2287823674025257028 : True := trivial
theorem Mine.top.tw11546936639936008217 : True := trivial
theorem Mine.top.tw1492452104121835379 : True := trivial
theorem Mine.top.tw9378254376102152143 : True := trivial
theorem Mine.top.tw4498253355057717688 : True := trivial
theorem Mine.top.tw1139600151236580504 : True := trivial
theorem Mine.top.tw13303987763403120937 : True := trivial
theorem Mine.top.tw13910297938031418929 : True := trivial
theorem Mine.top.tw16273406610938067001 : True := trivial
theorem Mine.top.tw1047907039808853306 : True := trivial
theorem Mine.top.tw6898770573198911631 : True := trivial
theorem Mine.top.tw15860264024139754761 : True := trivial
theorem Mine.top.tw12540527436937284434 : True := trivial
theorem Mine.top.tw14502225709538309166 : True := trivial
theorem Mine.top.tw2811446512466313300 : True := trivial
theorem Mine.top.tw1245559373397905713 : True := trivial
theorem Mine.top.tw16420938139371093754 : True := trivial
theorem Mine.top.tw10996937224433265937 : True := trivial
theorem Mine.top.tw14987219478266130788 : True := trivial
theorem Mine.top.tw10005945817407372193 : True := trivial
theorem Mine.top.tw3969286963782609292 : True := trivial
theorem Mine.top.tw17492772389151264855 : True := trivial
theorem Mine.top.tw814325599930780420 : True := trivial
theorem Mine.top.tw14597223018079223185 : True := trivial
theorem Mine.top.tw9631074621892390191 : True := trivial
theorem Mine.top.tw342308947776675178 : True := trivial
theorem Mine.top.tw956942650209027819 : True := trivial
theorem Mine.top.tw15240379268576122478 : True := trivial
theorem Mine.top.tw6572522305180300745 : True := trivial
theorem Mine.top.tw8363718466572441477 : True := trivial
theorem Mine.top.tw15169761463676818070 : True := trivial
theorem Mine.top.tw6756868429301003459 : True := trivial
theorem Mine.top.tw10617020205504526918 : True := trivial
theorem Mine.top.tw9305691244287143441 : True := trivial
theorem Mine.top.tw17555251805378815213 : True := trivial
theorem Mine.top.tw8810280945414196856 : True := trivial
theorem Mine.top.tw8507776931139520737 : True := trivial
theorem Mine.top.tw9229161468869434483 : True := trivial
theorem Mine.top.tw16204670001084760307 : True := trivial
theorem Mine.top.tw4166218997396506358 : True := trivial
theorem Mine.top.tw7458633546980236471 : True := trivial
theorem Mine.top.tw14611434983143301774 : True := trivial
theorem Mine.top.tw10187264123177260123 : True := trivial
theorem Mine.top.tw5523086135645875356 : True := trivial
theorem Mine.top.tw2245551393439186801 : True := trivial
theorem Mine.top.tw11334415319851112604 : True := trivial
theorem Mine.top.tw575894324575664597 : True := trivial
theorem Mine.top.tw5868845118606482295 : True := trivial
theorem Mine.top.tw14861896470697024400 : True := trivial
theorem Mine.top.tw15177526630643400193 : True := trivial
theorem Mine.top.tw864819663365544661 : True := trivial
theorem Mine.top.tw81815255157605957 : True := trivial
theorem Mine.top.tw4571971715460732019 : True := trivial
theorem Mine.top.tw8640399195822439974 : True := trivial
theorem Mine.top.tw13091174067606910046 : True := trivial
theorem Mine.top.tw17486766287000646611 : True := trivial
theorem Mine.top.tw14533951869480809633 : True := trivial
set_option maxRecDepth 100000 in
set_option maxHeartbeats 8000000 in
theorem Mine.top (walk : ∀ (as : List Addr) (e : ∀ P, as = (Mine.hd.heap_1_39 P).map (·.1)) (d : DefRec) (kwd : List (Str × PySem.Expr)), defOf Mine.hd.view_1_40 (Str.ofString "law") = some (d, kwd) →
    WalkO Mine.hd.view_1_40 [Str.ofString "GateloomError"] (XL Mine.hd.view_1_40 []) (Hook.says (kHook Mine.hd.heap_1_39 as e)) PySem.Challenge.rw_pq0445_01.row.toRowW d kwd (fun f vs => PySem.call f vs)) : PySem.Challenge.rw_pq0445_01.Holds := by
  exact (fun (h : ∀ (as : List Addr) (e : ∀ P, as = (Mine.hd.heap_1_39 P).map (·.1)), WalkO Mine.hd.view_1_40 [Str.ofString "GateloomError"] (XL Mine.hd.view_1_40 []) (Hook.says (kHook Mine.hd.heap_1_39 as e)) PySem.Challenge.rw_pq0445_01.row.toRowW _ _ (fun f vs => PySem.call f vs)) => by
    refine Mine.dup (h [2, 3, 6, 15, 22, 23, 25, 26, 28, 29, 30, 31, 32, 33, 36, 43, 44, 45, 48, 50, 51, 53, 54, 55, 57, 58, 60, 61, 62, 64, 65, 67, 68, 69, 71, 72, 74, 75, 76, 79, 80, 81, 83, 84, 86, 87, 88, 90, 91, 93, 94, 95, 97, 98, 100, 101, 102, 104, 105, 107, 108, 109, 112, 113, 114, 116, 117, 119, 120, 121, 123, 124, 126, 127, 128, 131, 132] fun _ => rfl) ?hc ?gg
    exact h [2, 3, 6, 15, 22, 23, 25, 26, 28, 29, 30, 31, 32, 33, 36, 43, 44, 45, 48, 50, 51, 53, 54, 55, 57, 58, 60, 61, 62, 64, 65, 67, 68, 69, 71, 72, 74, 75, 76, 79, 80, 81, 83, 84, 86, 87, 88, 90, 91, 93, 94, 95, 97, 98, 100, 101, 102, 104, 105, 107, 108, 109, 112, 113, 114, 116, 117, 119, 120, 121, 123, 124, 126, 127, 128, 131, 132] fun _ => rfl
    w_on; o_law; k_head; (case hw => w_witness2)) (fun as e => walk as e _ _ rfl)

theorem Mine.bar2 : Mine.top.heap_1_39 = Mine.top.heap_1_39 := rfl
end

set_option Elab.async false

section
set_option maxRecDepth 100000
open PySem PySem.W PyProof.Rows PySem.Calls PySem.Spec
namespace Mine

/-- what a call of f upon vs gives, over the ledger news -/
noncomputable def Gives (prog : Program) (w : World) (mean : ExcName → Option Value) (mg mb : Str → Option Value) (f : Addr) (vs : List Value) (news : List (Addr × Obj)) (dep un : Nat) (Out : Value → List (Addr × Obj) → Prop) : Prop :=
  ∀ (dp u : Nat) (gd : Option (List Code)) (cn : Str) (cs : Scope) (a : Addr) (ccd : Value) (cl : List (Str × Addr)) (outer : List Env) (A₀ : Around) (base h₀ : Heap) (L : Addr) (m : Str → Option Value) (s : Shared)
    (Q E : Value → Shared → Prop),
    Below A₀ base outer h₀ → Fr h₀ L s.heap m → (hd.heap_1_39 w.params).In h₀ → News h₀ L s.heap news → Top hd.view_1_40 (looseW hd.view_1_40 [Str.ofString "GateloomError"]) mean mg mb h₀ → cs.kind = .function → dp + dep < recursionLimit → u + un < cLine →
    (∀ r news' h' tk', Fr h₀ L h' m → News h₀ L h' news' → Out r news' → Q r { s with heap := h', toks := tk' }) →
    wpAny (model prog w) (ktrTop dp u gd cn cs L a ccd cl outer) (call (.ref f) vs) Q E s

noncomputable abbrev Led := List (Addr × Obj)
noncomputable abbrev tup (vs : List Value) : Obj := { cls := .type "tuple", data := .seq vs.toArray 0 }

/-- the word of a kind -/
noncomputable def kw : Nat → Str
  | 0 => Str.ofString "set"
  | 1 => Str.ofString "nba"
  | 2 => Str.ofString "trigger"
  | 3 => Str.ofString "disable"
  | 4 => Str.ofString "sys"
  | 5 => Str.ofString "block"
  | 6 => Str.ofString "fork"
  | 7 => Str.ofString "case"
  | 8 => Str.ofString "if"
  | 9 => Str.ofString "for"
  | 10 => Str.ofString "forever"
  | 11 => Str.ofString "while"
  | 12 => Str.ofString "repeat"
  | 13 => Str.ofString "delay"
  | 14 => Str.ofString "await"
  | _ => Str.ofString "wait"

/-- the name that a leaf calls -/
noncomputable def fn5 : Nat → Str
  | 0 => Str.ofString "f0"
  | 1 => Str.ofString "f1"
  | 2 => Str.ofString "f2"
  | 3 => Str.ofString "f3"
  | _ => Str.ofString "f4"

inductive Shown (news : Led) : Value → Prop
  | mk {a : Addr} {t1 t2 t3 : Tok} : (a, tup [.str (Str.ofString "set") t1, .int 1 t2, .str (Str.ofString "no statement") t3]) ∈ news → Shown news (.ref a)

inductive RowsAt (news : Led) : List Value → List Value → Prop
  | nil : RowsAt news [] []
  | cons {p q : Addr} {sh v : Value} {rows vs : List Value} : (p, tup [.ref q, v]) ∈ news → (q, tup [sh]) ∈ news → Shown news sh → RowsAt news rows vs → RowsAt news (.ref p :: rows) (v :: vs)

inductive NodeAt (news : Led) (a : Addr) : Nat → Nat → List Value → Prop
  | leaf {k i : Nat} {b c e : Addr} {t1 t2 t3 t4 t5 t6 t7 t8 : Tok} (hk : k < 5) (h : (a, tup [.str (kw k) t1, .int (100 + i : Nat) t2, .ref b, .ref c, .none]) ∈ news)
      (hb : (b, tup [.str (Str.ofString "id") t3, .int 1 t4, .str (Str.ofString "x") t5]) ∈ news) (hc : (c, tup [.str (Str.ofString "call") t6, .int 1 t7, .str (fn5 (i % 5)) t8, .ref e]) ∈ news) (he : (e, tup []) ∈ news) : NodeAt news a k i []
  | blk {k i : Nat} {q r : Addr} {sh : Value} {vs : List Value} {t1 t2 : Tok} (hk : k = 5 ∨ k = 6) (h : (a, tup [.str (kw k) t1, .int (100 + i : Nat) t2, .none, .ref q, .ref r]) ∈ news)
      (hs : Shown news sh) (hq : (q, tup [sh]) ∈ news) (hr : (r, tup vs) ∈ news) (hl : vs.length ≤ 3) : NodeAt news a k i vs
  | cas {i : Nat} {r : Addr} {sh : Value} {rows vs : List Value} {t1 t2 t3 : Tok} (h : (a, tup [.str (kw 7) t1, .int (100 + i : Nat) t2, .str (Str.ofString "case") t3, sh, .ref r]) ∈ news)
      (hs : Shown news sh) (hr : (r, tup rows) ∈ news) (hl : rows.length ≤ 3) (hv : RowsAt news rows vs) : NodeAt news a 7 i vs
  | iff {i : Nat} {sh v1 v2 : Value} {t1 t2 : Tok} (h : (a, tup [.str (kw 8) t1, .int (100 + i : Nat) t2, sh, v1, v2]) ∈ news) (hs : Shown news sh) : NodeAt news a 8 i [v1, v2]
  | rng {i : Nat} {q1 q2 : Addr} {s1 s2 s3 s4 s5 v : Value} {t1 t2 : Tok} (h : (a, tup [.str (kw 9) t1, .int (100 + i : Nat) t2, .ref q1, s3, .ref q2, v]) ∈ news)
      (h1 : (q1, tup [s1, s2]) ∈ news) (h2 : (q2, tup [s4, s5]) ∈ news) (hs1 : Shown news s1) (hs2 : Shown news s2) (hs3 : Shown news s3) (hs4 : Shown news s4) (hs5 : Shown news s5) : NodeAt news a 9 i [v]
  | fev {i : Nat} {v : Value} {t1 t2 : Tok} (h : (a, tup [.str (kw 10) t1, .int (100 + i : Nat) t2, v]) ∈ news) : NodeAt news a 10 i [v]
  | one {k i : Nat} {sh v : Value} {t1 t2 : Tok} (hk : 10 < k) (hk2 : k < 16) (h : (a, tup [.str (kw k) t1, .int (100 + i : Nat) t2, sh, v]) ∈ news) (hs : Shown news sh) : NodeAt news a k i [v]

theorem Shown.mono {news news' : Led} (hs : ∀ p ∈ news, p ∈ news') {v : Value} (h : Shown news v) : Shown news' v := by
  cases h with | mk h => exact .mk (hs _ h)
theorem RowsAt.mono {news news' : Led} (hs : ∀ p ∈ news, p ∈ news') {rows vs : List Value} (h : RowsAt news rows vs) : RowsAt news' rows vs := by
  induction h with
  | nil => exact .nil
  | cons h1 h2 h3 _ ih => exact .cons (hs _ h1) (hs _ h2) (h3.mono hs) ih
theorem NodeAt.mono {news news' : Led} (hs : ∀ p ∈ news, p ∈ news') {a : Addr} {k i : Nat} {vs : List Value} (h : NodeAt news a k i vs) : NodeAt news' a k i vs := by
  cases h with
  | leaf hk h hb hc he => exact .leaf hk (hs _ h) (hs _ hb) (hs _ hc) (hs _ he)
  | blk hk h s hq hr hl => exact .blk hk (hs _ h) (s.mono hs) (hs _ hq) (hs _ hr) hl
  | cas h s hr hl hv => exact .cas (hs _ h) (s.mono hs) (hs _ hr) hl (hv.mono hs)
  | iff h s => exact .iff (hs _ h) (s.mono hs)
  | rng h h1 h2 a b c d e => exact .rng (hs _ h) (hs _ h1) (hs _ h2) (a.mono hs) (b.mono hs) (c.mono hs) (d.mono hs) (e.mono hs)
  | fev h => exact .fev (hs _ h)
  | one a b h s => exact .one a b (hs _ h) (s.mono hs)

/-- a statement tree: nothing; a statement of kind k, number i, its parts -/
inductive Tr where
  | no
  | mk (k i : Nat) (kids : List Tr)

mutual
/-- the value v lies in the ledger as t -/
noncomputable def Tr.In (news : Led) : Tr → Value → Prop
  | .no, v => v = .none
  | .mk k i kids, v => ∃ a vs, v = .ref a ∧ NodeAt news a k i vs ∧ Tr.AllIn news kids vs
noncomputable def Tr.AllIn (news : Led) : List Tr → List Value → Prop
  | [], vs => vs = []
  | t :: r, vs => ∃ v vs', vs = v :: vs' ∧ Tr.In news t v ∧ Tr.AllIn news r vs'
end
mutual
/-- its numbers run from a up to b, the parts ahead of the whole -/
noncomputable def Tr.ok : Tr → Nat → Nat → Prop
  | .no, a, b => b = a
  | .mk _ i kids, a, b => Tr.okAll kids a i ∧ b = i + 1
noncomputable def Tr.okAll : List Tr → Nat → Nat → Prop
  | [], a, b => b = a
  | t :: r, a, b => ∃ c, t.ok a c ∧ Tr.okAll r c b
end
mutual
/-- kinds and numbers, the parts ahead of the whole -/
noncomputable def Tr.post : Tr → List (Nat × Nat)
  | .no => []
  | .mk k i kids => Tr.postAll kids ++ [(k, i)]
noncomputable def Tr.postAll : List Tr → List (Nat × Nat)
  | [] => []
  | t :: r => t.post ++ Tr.postAll r
end
mutual
theorem Tr.In.mono {news news' : Led} (hs : ∀ p ∈ news, p ∈ news') : ∀ {t : Tr} {v : Value}, t.In news v → t.In news' v
  | .no, _, h => by rw [Tr.In] at h ⊢; exact h
  | .mk k i kids, _, h => by
    rw [Tr.In] at h ⊢
    obtain ⟨a, vs, h1, h2, h3⟩ := h
    exact ⟨a, vs, h1, h2.mono hs, Tr.AllIn.mono hs h3⟩
theorem Tr.AllIn.mono {news news' : Led} (hs : ∀ p ∈ news, p ∈ news') : ∀ {ts : List Tr} {vs : List Value}, Tr.AllIn news ts vs → Tr.AllIn news' ts vs
  | [], _, h => by rw [Tr.AllIn] at h ⊢; exact h
  | t :: r, _, h => by
    rw [Tr.AllIn] at h ⊢
    obtain ⟨v, vs, h1, h2, h3⟩ := h
    exact ⟨v, vs, h1, Tr.In.mono hs h2, Tr.AllIn.mono hs h3⟩
end

/-- the values of the list made: a statement each -/
inductive Made (news : Led) : List Value → List (Nat × Nat) → Prop
  | nil : Made news [] []
  | cons {a : Addr} {k i : Nat} {vs us : List Value} {r : List (Nat × Nat)} : NodeAt news a k i us → Made news vs r → Made news (.ref a :: vs) ((k, i) :: r)
theorem Made.mono {news news' : Led} (hs : ∀ p ∈ news, p ∈ news') {vs : List Value} {r : List (Nat × Nat)} (h : Made news vs r) : Made news' vs r := by
  induction h with
  | nil => exact .nil
  | cons h1 _ ih => exact .cons (h1.mono hs) ih
theorem Made.append {news : Led} {vs us : List Value} {r q : List (Nat × Nat)} (h : Made news vs r) (g : Made news us q) : Made news (vs ++ us) (r ++ q) := by
  induction h with
  | nil => exact g
  | cons h1 _ ih => exact .cons h1 ih
theorem Made.length {news : Led} {vs : List Value} {r : List (Nat × Nat)} (h : Made news vs r) : vs.length = r.length := by
  induction h with
  | nil => rfl
  | cons h1 _ ih => simp [ih]

noncomputable def isSome (v : Value) : Bool := v != .none
/-- the values of the list inside: a statement and the list of its parts -/
inductive Inside (news : Led) : List Value → Prop
  | nil : Inside news []
  | cons {p a l : Addr} {k i n : Nat} {vs us : List Value} : (p, tup [.ref a, .ref l]) ∈ news → NodeAt news a k i us → (l, listOf (us.filter isSome).toArray n) ∈ news → (∀ u ∈ us, u = .none ∨ ∃ b, u = .ref b) → Inside news vs → Inside news (.ref p :: vs)
theorem Inside.mono {news news' : Led} (hs : ∀ p ∈ news, p ∈ news') {vs : List Value} (h : Inside news vs) : Inside news' vs := by
  induction h with
  | nil => exact .nil
  | cons h1 h2 h3 hu _ ih => exact .cons (hs _ h1) (h2.mono hs) (hs _ h3) hu ih
theorem Inside.append {news : Led} {vs us : List Value} (h : Inside news vs) (g : Inside news us) : Inside news (vs ++ us) := by
  induction h with
  | nil => exact g
  | cons h1 h2 h3 hu _ ih => exact .cons h1 h2 h3 hu ih

/-- an item of a list of the ledger, at a place that is known to lie in it -/
theorem my_item {prog : Program} {w : World} {A : Around} {E : Value → Shared → Prop} {s : Shared} {h₀ : Heap} {L : Addr} {news : Led} {value slice : PySem.Expr} {l : Addr} {vs : List Value} {n : Nat} {k : Int} {u : Tok} {v : Value} {Q : Value → Shared → Prop}
    (N : News h₀ L s.heap news) (hm : (l, listOf vs.toArray n) ∈ news) (h0 : 0 ≤ k) (hhi : k < 2 ^ 63) (hx : vs[k.toNat]? = some v) (h : Q v s)
    (hs : subscripted slice false (.ref l) (.int k u) = operate [.ref l, .int k u] (getItem (.ref l) (.int k u)) := by with_unfolding_all rfl) :
    wpAny (model prog w) A (subscriptTail value slice (.ref l) (.int k u)) Q E s :=
  have hl : s.heap.IsList l vs.toArray := ⟨_, (N _ hm).1, rfl, n, rfl⟩
  tail_any hl.typeIs slot_list_getitem.lookup (wpAny_getItem_list hl h0 hhi (by simpa using hx) h) hs

theorem kw_item {t0 t1 t2 t3 t4 : Tok} {k : Int} (h0 : 0 ≤ k) (h1 : k < 5) : ∃ t, ([.str (Str.ofString "set") t0, .str (Str.ofString "nba") t1, .str (Str.ofString "trigger") t2, .str (Str.ofString "disable") t3, .str (Str.ofString "sys") t4] : List Value)[k.toNat]? = some (.str (kw k.toNat) t) := by
  have : k = 0 ∨ k = 1 ∨ k = 2 ∨ k = 3 ∨ k = 4 := by omega
  rcases this with rfl | rfl | rfl | rfl | rfl <;> exact ⟨_, rfl⟩
theorem my_kw {prog : Program} {w : World} {A : Around} {E : Value → Shared → Prop} {s : Shared} {h₀ : Heap} {L : Addr} {news : Led} {value slice : PySem.Expr} {l : Addr} {n : Nat} {k : Int} {u : Tok} {t0 t1 t2 t3 t4 : Tok} {Q : Value → Shared → Prop}
    (N : News h₀ L s.heap ((l, listOf #[.str (Str.ofString "set") t0, .str (Str.ofString "nba") t1, .str (Str.ofString "trigger") t2, .str (Str.ofString "disable") t3, .str (Str.ofString "sys") t4] n) :: news)) (h0 : 0 ≤ k) (h1 : k < 5) (h : ∀ t, Q (.str (kw k.toNat) t) s)
    (hs : subscripted slice false (.ref l) (.int k u) = operate [.ref l, .int k u] (getItem (.ref l) (.int k u)) := by with_unfolding_all rfl) :
    wpAny (model prog w) A (subscriptTail value slice (.ref l) (.int k u)) Q E s := by
  obtain ⟨t, ht⟩ := kw_item (t0 := t0) (t1 := t1) (t2 := t2) (t3 := t3) (t4 := t4) h0 h1
  exact my_item N (.head _) h0 (by omega) ht (h t) hs
theorem my_len {prog : Program} {w : World} {A : Around} {E : Value → Shared → Prop} {s : Shared} {h₀ : Heap} {L : Addr} {news : Led} {l : Addr} {vs : List Value} {n : Nat} {Q : Value → Shared → Prop}
    (N : News h₀ L s.heap news) (hm : (l, listOf vs.toArray n) ∈ news) (hl : vs.length ≤ 2000) (h : Q (.int (vs.length : Nat) (s.toks + 1)) { s with toks := s.toks + 1 + 1 }) :
    wpAny (model prog w) A (call (.builtin "len") [.ref l]) Q E s :=
  Calls.call_len_list (items := vs.toArray) ⟨_, (N _ hm).1, rfl, n, rfl⟩ (by rw [List.size_toArray]; omega) (by rw [List.size_toArray]; exact h)
theorem newsSub {h₀ h : Heap} {L : Addr} {l l' : Led} (N : News h₀ L h l) (hs : ∀ p ∈ l', p ∈ l) : News h₀ L h l' := fun p hp => N p (hs p hp)
theorem lt2 {D aS aM : Nat} {o1 o2 : Obj} {rest : Led} (h1 : aS < D) (h2 : aM < D) (h3 : AllLt D rest) : ∀ q ∈ (aS, o1) :: (aM, o2) :: rest, q.1 < D := by
  intro q hq
  rcases List.mem_cons.mp hq with rfl | hq
  · exact h1
  · rcases List.mem_cons.mp hq with rfl | hq
    · exact h2
    · exact tb_ltOf h3 q hq
theorem fn5_of (n : Nat) : Str.ofString "f" ++ Str.ofString (toString ((n : Int).fmod 5)) = fn5 (n % 5) := by
  have h0 : (n : Int).fmod 5 = ((n % 5 : Nat) : Int) := by rw [Int.fmod_eq_emod_of_nonneg _ (by decide)]; rfl
  rw [h0]
  have h1 : n % 5 < 5 := Nat.mod_lt _ (by decide)
  generalize n % 5 = j at h1
  have : j = 0 ∨ j = 1 ∨ j = 2 ∨ j = 3 ∨ j = 4 := by omega
  rcases this with rfl | rfl | rfl | rfl | rfl <;> decide +kernel

theorem mv_leaf {α : Type} {d d1 d2 d3 l s m : α} {r : List α} : ∀ p ∈ s :: m :: ([d, d1, d2, d3] ++ r), p ∈ d :: d1 :: d2 :: d3 :: l :: s :: m :: r := by
  intro p hp
  simp only [List.mem_cons, List.mem_append, List.not_mem_nil, or_false] at hp ⊢
  rcases hp with h | h | (h | h | h | h) | h <;> simp only [h, true_or, or_true]
theorem mv_prt {α : Type} {i c d s x k q l : α} {t : List α} : ∀ p ∈ i :: c :: d :: s :: ((x :: t) ++ [k]), p ∈ x :: q :: l :: i :: c :: d :: s :: (t ++ [k]) := by
  intro p hp
  simp only [List.mem_cons, List.mem_append, List.not_mem_nil, or_false] at hp ⊢
  rcases hp with h | h | h | h | (h | h) | h <;> simp only [h, true_or, or_true]
theorem mv_rows {α : Type} {i c d p q : α} {cs rl t : List α} : ∀ x ∈ i :: c :: d :: (cs ++ ((p :: q :: rl) ++ t)), x ∈ p :: q :: i :: c :: d :: (cs ++ (rl ++ t)) := by
  intro x hp
  simp only [List.mem_cons, List.mem_append] at hp ⊢
  rcases hp with h | h | h | h | (h | h | h) | h <;> simp only [h, true_or, or_true]
theorem all_rows {α : Type} {P : α → Prop} {p q : α} {cs rl t : List α} (h1 : ∀ x ∈ cs ++ (rl ++ t), P x) (h2 : P p) (h3 : P q) : ∀ x ∈ cs ++ ((p :: q :: rl) ++ t), P x := by
  intro x hx
  simp only [List.mem_cons, List.mem_append] at hx
  rcases hx with h | (rfl | rfl | h) | h
  · exact h1 x (List.mem_append.mpr (.inl h))
  · exact h2
  · exact h3
  · exact h1 x (List.mem_append.mpr (.inr (List.mem_append.mpr (.inl h))))
  · exact h1 x (List.mem_append.mpr (.inr (List.mem_append.mpr (.inr h))))
theorem mv_end0 {α β : Type} {f : α → β} {p1 p2 p3 p4 p5 e : α} {s m : β} {r : List α} : ∀ b ∈ s :: m :: f e :: r.map f, b ∈ s :: m :: ([p1, p2, p3, p4, p5] ++ e :: r).map f := by
  intro b hb
  simp only [List.mem_cons, List.map_append, List.map_cons, List.mem_append] at hb ⊢
  rcases hb with h | h | h | h <;> simp only [h, true_or, or_true]
theorem skip1 {nm z : Str} {α : Type} {a b c : α} (hz : [nm].contains z = false) : (if z = nm then a else if [nm].contains z = true then b else c) = c := by
  have h1 : z ≠ nm := fun e => by subst e; simp at hz
  rw [if_neg h1, if_neg (by rw [hz]; decide)]
theorem pl_0 {R : Prop} {a D : Nat} (h : a < D ∧ R) : a < D := h.1
theorem pl_1 {A0 R : Prop} {a D : Nat} (h : A0 ∧ a < D ∧ R) : a < D := h.2.1
theorem pl_2 {A0 A1 R : Prop} {a D : Nat} (h : A0 ∧ A1 ∧ a < D ∧ R) : a < D := h.2.2.1
theorem pl_3 {A0 A1 A2 R : Prop} {a D : Nat} (h : A0 ∧ A1 ∧ A2 ∧ a < D ∧ R) : a < D := h.2.2.2.1
theorem pl_4 {A0 A1 A2 A3 R : Prop} {a D : Nat} (h : A0 ∧ A1 ∧ A2 ∧ A3 ∧ a < D ∧ R) : a < D := h.2.2.2.2.1
theorem pl_5 {A0 A1 A2 A3 A4 R : Prop} {a D : Nat} (h : A0 ∧ A1 ∧ A2 ∧ A3 ∧ A4 ∧ a < D ∧ R) : a < D := h.2.2.2.2.2.1
theorem pl_6 {A0 A1 A2 A3 A4 A5 R : Prop} {a D : Nat} (h : A0 ∧ A1 ∧ A2 ∧ A3 ∧ A4 ∧ A5 ∧ a < D ∧ R) : a < D := h.2.2.2.2.2.2.1
theorem pl_7 {A0 A1 A2 A3 A4 A5 A6 R : Prop} {a D : Nat} (h : A0 ∧ A1 ∧ A2 ∧ A3 ∧ A4 ∧ A5 ∧ A6 ∧ a < D ∧ R) : a < D := h.2.2.2.2.2.2.2.1
theorem pl_8 {A0 A1 A2 A3 A4 A5 A6 A7 R : Prop} {a D : Nat} (h : A0 ∧ A1 ∧ A2 ∧ A3 ∧ A4 ∧ A5 ∧ A6 ∧ A7 ∧ a < D ∧ R) : a < D := h.2.2.2.2.2.2.2.2.1
theorem pl_9 {A0 A1 A2 A3 A4 A5 A6 A7 A8 R : Prop} {a D : Nat} (h : A0 ∧ A1 ∧ A2 ∧ A3 ∧ A4 ∧ A5 ∧ A6 ∧ A7 ∧ A8 ∧ a < D ∧ R) : a < D := h.2.2.2.2.2.2.2.2.2.1
theorem pl_10 {A0 A1 A2 A3 A4 A5 A6 A7 A8 A9 R : Prop} {a D : Nat} (h : A0 ∧ A1 ∧ A2 ∧ A3 ∧ A4 ∧ A5 ∧ A6 ∧ A7 ∧ A8 ∧ A9 ∧ a < D ∧ R) : a < D := h.2.2.2.2.2.2.2.2.2.2.1
theorem pl_11 {A0 A1 A2 A3 A4 A5 A6 A7 A8 A9 A10 R : Prop} {a D : Nat} (h : A0 ∧ A1 ∧ A2 ∧ A3 ∧ A4 ∧ A5 ∧ A6 ∧ A7 ∧ A8 ∧ A9 ∧ A10 ∧ a < D ∧ R) : a < D := h.2.2.2.2.2.2.2.2.2.2.2.1
theorem pl_12 {A0 A1 A2 A3 A4 A5 A6 A7 A8 A9 A10 A11 R : Prop} {a D : Nat} (h : A0 ∧ A1 ∧ A2 ∧ A3 ∧ A4 ∧ A5 ∧ A6 ∧ A7 ∧ A8 ∧ A9 ∧ A10 ∧ A11 ∧ a < D ∧ R) : a < D := h.2.2.2.2.2.2.2.2.2.2.2.2.1
theorem pl_13 {A0 A1 A2 A3 A4 A5 A6 A7 A8 A9 A10 A11 A12 R : Prop} {a D : Nat} (h : A0 ∧ A1 ∧ A2 ∧ A3 ∧ A4 ∧ A5 ∧ A6 ∧ A7 ∧ A8 ∧ A9 ∧ A10 ∧ A11 ∧ A12 ∧ a < D ∧ R) : a < D := h.2.2.2.2.2.2.2.2.2.2.2.2.2.1
theorem pl_14 {A0 A1 A2 A3 A4 A5 A6 A7 A8 A9 A10 A11 A12 A13 R : Prop} {a D : Nat} (h : A0 ∧ A1 ∧ A2 ∧ A3 ∧ A4 ∧ A5 ∧ A6 ∧ A7 ∧ A8 ∧ A9 ∧ A10 ∧ A11 ∧ A12 ∧ A13 ∧ a < D ∧ R) : a < D := h.2.2.2.2.2.2.2.2.2.2.2.2.2.2.1
theorem pl_15 {A0 A1 A2 A3 A4 A5 A6 A7 A8 A9 A10 A11 A12 A13 A14 R : Prop} {a D : Nat} (h : A0 ∧ A1 ∧ A2 ∧ A3 ∧ A4 ∧ A5 ∧ A6 ∧ A7 ∧ A8 ∧ A9 ∧ A10 ∧ A11 ∧ A12 ∧ A13 ∧ A14 ∧ a < D ∧ R) : a < D := h.2.2.2.2.2.2.2.2.2.2.2.2.2.2.2.1
theorem pl_16 {A0 A1 A2 A3 A4 A5 A6 A7 A8 A9 A10 A11 A12 A13 A14 A15 R : Prop} {a D : Nat} (h : A0 ∧ A1 ∧ A2 ∧ A3 ∧ A4 ∧ A5 ∧ A6 ∧ A7 ∧ A8 ∧ A9 ∧ A10 ∧ A11 ∧ A12 ∧ A13 ∧ A14 ∧ A15 ∧ a < D ∧ R) : a < D := h.2.2.2.2.2.2.2.2.2.2.2.2.2.2.2.2.1
/-- tl lies off the addresses as -/
structure Abv (as : List Addr) (tl : Led) : Prop where
  out : ∀ p ∈ tl, ∀ a ∈ as, @Ne Nat a p.1
theorem Abv.nil {as : List Addr} : Abv as [] := ⟨fun _ h => nomatch h⟩
theorem Abv.sub {as bs : List Addr} {tl : Led} (h : Abv as tl) (hs : ∀ b ∈ bs, b ∈ as) : Abv bs tl := ⟨fun p hp b hb => h.out p hp b (hs b hb)⟩
theorem Abv.append {as : List Addr} {tl tl' : Led} (h : Abv as tl) (g : Abv as tl') : Abv as (tl ++ tl') := ⟨fun p hp => (List.mem_append.mp hp).elim (h.out p) (g.out p)⟩
theorem Abv.ne {as : List Addr} {tl : Led} (h : Abv as tl) {a : Addr} (ha : a ∈ as) : ∀ p ∈ tl, p.1 ≠ a := fun p hp => Ne.symm (h.out p hp a ha)
theorem Abv.one {as : List Addr} {D : Addr} {o : Obj} {tl : Led} (hD : ∀ a ∈ as, @Ne Nat a D) (h : Abv as tl) : Abv as ((D, o) :: tl) := by
  refine ⟨fun p hp => ?_⟩
  rcases List.mem_cons.mp hp with rfl | hp
  · exact hD
  · exact h.out p hp
theorem ne_cons {D a : Nat} {as : List Addr} (h1 : @Ne Nat a D) (h2 : ∀ b ∈ as, @Ne Nat b D) : ∀ b ∈ a :: as, @Ne Nat b D := by
  intro b hb
  rcases List.mem_cons.mp hb with rfl | hb
  · exact h1
  · exact h2 b hb
theorem lt_cons {D a : Nat} {as : List Addr} (h1 : a < D) (h2 : ∀ b ∈ as, @Ne Nat b D) : ∀ b ∈ a :: as, @Ne Nat b D := ne_cons (Nat.ne_of_lt h1) h2
theorem lt_rest {D : Nat} {rest : Led} (h : AllLt D rest) : ∀ b ∈ rest.map (·.1), @Ne Nat b D := by
  intro b hb
  obtain ⟨p, hp, rfl⟩ := List.mem_map.mp hb
  exact Nat.ne_of_lt (tb_ltOf h p hp)
theorem off_rest {D : Nat} {rest : Led} (h : ∀ p ∈ rest, p.1 ≠ D) : ∀ b ∈ rest.map (·.1), @Ne Nat b D := by
  intro b hb
  obtain ⟨p, hp, rfl⟩ := List.mem_map.mp hb
  exact h p hp

noncomputable def LeafOut (aS aM : Addr) (vs : List Value) (n : Nat) (ms : List Value) (n2 : Nat) (rest : Led) (r : Value) (news' : Led) : Prop :=
  ∃ vs' ns' n' mn n2' t tl, IntsAre vs' ns' ∧ vs'.length ≤ vs.length ∧ news' = (aS, listOf vs'.toArray n') :: (aM, listOf (ms ++ mn).toArray n2') :: (tl ++ rest) ∧
    Tr.In tl t r ∧ t.ok ms.length (ms ++ mn).length ∧ Made tl mn t.post ∧ mn.length ≤ 1 ∧ Abv (aS :: aM :: rest.map (·.1)) tl

theorem leaf_end {aS aM D D1 D2 D3 l : Nat} {vs vs' ms : List Value} {ns' : List Int} {n n' n2 n3 : Nat} {rest : Led} {x k : Int} {t1 t2 t3 t4 t5 t6 t7 t8 : Tok}
    (hk0 : 0 ≤ k) (hk : k < 5) (hi : IntsAre vs' ns') (hl : vs'.length ≤ vs.length) (hx : x = 100 + (ms.length : Int))
    (l1 : D1 < D ∧ D2 < D ∧ D3 < D ∧ l < D ∧ aS < D ∧ aM < D ∧ AllLt D rest) (l2 : D2 < D1 ∧ D3 < D1 ∧ l < D1 ∧ aS < D1 ∧ aM < D1 ∧ AllLt D1 rest) (l3 : D3 < D2 ∧ l < D2 ∧ aS < D2 ∧ aM < D2 ∧ AllLt D2 rest) (l4 : l < D3 ∧ aS < D3 ∧ aM < D3 ∧ AllLt D3 rest)
    {tl : Led} (htl : tl = [(D, tup [.str (kw k.toNat) t1, .int x t2, .ref D3, .ref D1, .none]), (D1, tup [.str (Str.ofString "call") t3, .int 1 t4, .str (Str.ofString "f" ++ Str.ofString (toString ((ms.length : Int).fmod 5))) t5, .ref D2]), (D2, tup []), (D3, tup [.str (Str.ofString "id") t6, .int 1 t7, .str (Str.ofString "x") t8])]) :
    LeafOut aS aM vs n ms n2 rest (.ref D) ((aS, listOf vs'.toArray n') :: (aM, listOf (ms ++ [Value.ref D]).toArray n3) :: (tl ++ rest)) := by
  have hN : NodeAt tl D k.toNat ms.length [] := by
    refine .leaf (b := D3) (c := D1) (e := D2) (t1 := t1) (t2 := t2) (t3 := t6) (t4 := t7) (t5 := t8) (t6 := t3) (t7 := t4) (t8 := t5) (by omega) ?_ ?_ ?_ ?_ <;> subst htl
    · have : x = ((100 + ms.length : Nat) : Int) := by omega
      rw [← this]; exact .head _
    · simp
    · rw [← fn5_of]; simp
    · simp
  refine ⟨vs', ns', n', [Value.ref D], n3, .mk k.toNat ms.length [], tl, hi, hl, rfl, ?_, ?_, ?_, Nat.le_refl _, ?_⟩
  · rw [Tr.In]; exact ⟨D, [], rfl, hN, by rw [Tr.AllIn]⟩
  · rw [Tr.ok, Tr.okAll]; exact ⟨rfl, by simp⟩
  · rw [Tr.post, Tr.postAll]; exact .cons hN .nil
  · subst htl
    exact .one (lt_cons l1.2.2.2.2.1 (lt_cons l1.2.2.2.2.2.1 (lt_rest l1.2.2.2.2.2.2))) (.one (lt_cons l2.2.2.2.1 (lt_cons l2.2.2.2.2.1 (lt_rest l2.2.2.2.2.2)))
      (.one (lt_cons l3.2.2.1 (lt_cons l3.2.2.2.1 (lt_rest l3.2.2.2.2))) (.one (lt_cons l4.2.1 (lt_cons l4.2.2.1 (lt_rest l4.2.2.2))) .nil)))
theorem leaf_news {h₀ h : Heap} {L D D1 D2 D3 l aS aM : Addr} {o1 o2 o3 o4 o5 oS : Obj} {ms : List Value} {n : Nat} {rest : Led}
    (N : News h₀ L h ((D, o1) :: (D1, o2) :: (D2, o3) :: (D3, o4) :: (l, o5) :: (aS, oS) :: (aM, listOf (ms.toArray.push (.ref D)) n) :: rest)) :
    News h₀ L h ((aS, oS) :: (aM, listOf (ms ++ [Value.ref D]).toArray n) :: ([(D, o1), (D1, o2), (D2, o3), (D3, o4)] ++ rest)) := by
  have e : (ms ++ [Value.ref D]).toArray = ms.toArray.push (.ref D) := by simp
  rw [e]
  exact newsSub N mv_leaf

noncomputable def bnd : Nat → Nat
  | 0 => 1
  | d + 1 => 3 * bnd d + 1
noncomputable def TreeOut (aS aM aI : Addr) (vs : List Value) (n : Nat) (ms : List Value) (n2 : Nat) (is : List Value) (n3 : Nat) (rest : Led) (B : Nat) (r : Value) (news' : Led) : Prop :=
  ∃ vs' ns' n' mn n2' inn n3' t tl, IntsAre vs' ns' ∧ vs'.length ≤ vs.length ∧ news' = (aS, listOf vs'.toArray n') :: (aM, listOf (ms ++ mn).toArray n2') :: (aI, listOf (is ++ inn).toArray n3') :: (tl ++ rest) ∧
    Tr.In tl t r ∧ t.ok ms.length (ms ++ mn).length ∧ Made tl mn t.post ∧ Inside tl inn ∧ mn.length ≤ B ∧ inn.length ≤ B ∧
    Abv (aS :: aM :: aI :: rest.map (·.1)) tl
theorem Fr_ext {h₀ h : Heap} {L : Addr} {m m' : Str → Option Value} (F : Fr h₀ L h m) (e : ∀ y, m y = m' y) : Fr h₀ L h m' := (funext e : m = m') ▸ F
/-- a goal that the walk leaves alone -/
noncomputable def Blk (P : Prop) : Prop := P
theorem Blk.mk {P : Prop} (h : Blk P) : P := h
theorem Blk.out {P : Prop} (h : P) : Blk P := h

theorem cnt_item {t0 t1 t2 t3 : Tok} {k : Int} (h0 : 0 ≤ k) (h1 : k < 4) : ∃ (c : Nat) (t : Tok), c ≤ 3 ∧ ([.int 2 t0, .int 1 t1, .int 3 t2, .int 0 t3] : List Value)[k.toNat]? = some (.int (c : Int) t) := by
  have : k = 0 ∨ k = 1 ∨ k = 2 ∨ k = 3 := by omega
  rcases this with rfl | rfl | rfl | rfl
  · exact ⟨2, t0, by decide, rfl⟩
  · exact ⟨1, t1, by decide, rfl⟩
  · exact ⟨3, t2, by decide, rfl⟩
  · exact ⟨0, t3, by decide, rfl⟩
theorem my_cnt {prog : Program} {w : World} {A : Around} {E : Value → Shared → Prop} {s : Shared} {h₀ : Heap} {L : Addr} {news : Led} {value slice : PySem.Expr} {l : Addr} {n : Nat} {k : Int} {u : Tok} {t0 t1 t2 t3 : Tok} {Q : Value → Shared → Prop}
    (N : News h₀ L s.heap ((l, listOf #[.int 2 t0, .int 1 t1, .int 3 t2, .int 0 t3] n) :: news)) (h0 : 0 ≤ k) (h1 : k < 4) (h : ∀ (c : Nat) t, c ≤ 3 → Q (.int (c : Int) t) s)
    (hs : subscripted slice false (.ref l) (.int k u) = operate [.ref l, .int k u] (getItem (.ref l) (.int k u)) := by with_unfolding_all rfl) :
    wpAny (model prog w) A (subscriptTail value slice (.ref l) (.int k u)) Q E s := by
  obtain ⟨c, t, hc, ht⟩ := cnt_item (t0 := t0) (t1 := t1) (t2 := t2) (t3 := t3) h0 h1
  exact my_item N (.head _) h0 (by omega) ht (h c t hc) hs

theorem Tr.allIn_snoc {tl : Led} : ∀ {ts : List Tr} {ys : List Value} {t : Tr} {y : Value}, Tr.AllIn tl ts ys → Tr.In tl t y → Tr.AllIn tl (ts ++ [t]) (ys ++ [y])
  | [], ys, t, y, h, g => by
    rw [Tr.AllIn] at h
    subst h
    show Tr.AllIn tl [t] [y]
    rw [Tr.AllIn]
    exact ⟨y, [], rfl, g, by rw [Tr.AllIn]⟩
  | t₀ :: r, ys, t, y, h, g => by
    rw [Tr.AllIn] at h
    obtain ⟨v, vs, rfl, h1, h2⟩ := h
    show Tr.AllIn tl (t₀ :: (r ++ [t])) (v :: (vs ++ [y]))
    rw [Tr.AllIn]
    exact ⟨v, _, rfl, h1, Tr.allIn_snoc h2 g⟩
theorem Tr.okAll_snoc : ∀ {ts : List Tr} {t : Tr} {a b c : Nat}, Tr.okAll ts a b → t.ok b c → Tr.okAll (ts ++ [t]) a c
  | [], t, a, b, c, h, g => by
    rw [Tr.okAll] at h
    subst h
    show Tr.okAll [t] b c
    rw [Tr.okAll]
    exact ⟨c, g, by rw [Tr.okAll]⟩
  | t₀ :: r, t, a, b, c, h, g => by
    rw [Tr.okAll] at h
    obtain ⟨e, h1, h2⟩ := h
    show Tr.okAll (t₀ :: (r ++ [t])) a c
    rw [Tr.okAll]
    exact ⟨e, h1, Tr.okAll_snoc h2 g⟩
theorem Tr.postAll_snoc : ∀ {ts : List Tr} {t : Tr}, Tr.postAll (ts ++ [t]) = Tr.postAll ts ++ t.post
  | [], t => by
    show Tr.postAll [t] = Tr.postAll [] ++ t.post
    rw [Tr.postAll, Tr.postAll, Tr.postAll]; simp
  | t₀ :: r, t => by
    show Tr.postAll (t₀ :: (r ++ [t])) = Tr.postAll (t₀ :: r) ++ t.post
    rw [Tr.postAll, Tr.postAll, Tr.postAll_snoc, List.append_assoc]
theorem Tr.allIn_length {tl : Led} : ∀ {ts : List Tr} {ys : List Value}, Tr.AllIn tl ts ys → ys.length = ts.length
  | [], ys, h => by rw [Tr.AllIn] at h; subst h; rfl
  | t₀ :: r, ys, h => by
    rw [Tr.AllIn] at h
    obtain ⟨v, vs, rfl, h1, h2⟩ := h
    simp [Tr.allIn_length h2]

/-- the turns of a comprehension by what holds ahead of each -/
theorem compEnd_mono {h₀ : Heap} {L : Addr} {m : Str → Option Value} {s₁ : Shared} {I C D : Addr} {oI oC oD : Obj} {S : List (Addr × Obj) → Prop} {K K' : Value → List (Addr × Obj) → Prop} {y y' : Value} {s₂ : Shared}
    (z : LCg.CompEnd h₀ L m s₁ I oI C oC D oD S K y s₂) (f : ∀ news', K y news' → K' y' news') : LCg.CompEnd h₀ L m s₁ I oI C oC D oD S K' y' s₂ := by
  obtain ⟨h', tk', news', e', F', N', o', hS, r⟩ := z
  exact ⟨h', tk', news', e', F', N', o', hS, f news' r⟩
theorem compRest_inv {prog : Program} {w : World} {A : Around} {h₀ : Heap} {L : Addr} {m : Str → Option Value} {env : Env} {elt : PySem.Expr} {x : Str} {scope : Scope} {cl : List (Str × Addr)} {s : Shared} {S : Led → Prop} {P : Nat → Value → Prop} {Fin : List Value → Led → Prop}
    (J : Nat → List Value → Led → Prop) {n : Nat}
    (step : ∀ i ys news v I oI C oC D m₂ h tk (E' : Value → Shared → Prop), i < n → J i ys news → P i v → LCg.NsObj oC m₂ → m₂ x = some v → Fr h₀ L h m → News h₀ L h ((I, oI) :: (C, oC) :: (D, LCg.lst ys) :: news) → LCg.Off3 I C D news → ((@Ne Nat I C) ∧ (@Ne Nat I D) ∧ (@Ne Nat C D)) →
      wpAny (model prog w) A (eval elt (compEnvC scope cl C env)) (LCg.CompEnd h₀ L m { s with heap := h, toks := tk } I oI C oC D (LCg.lst ys) S (fun y news' => J (i + 1) (ys ++ [y]) news')) E' { s with heap := h, toks := tk })
    (fin : ∀ ys news, J n ys news → Fin ys news) : ∀ k i ys news, i + k = n → J i ys news → LCg.CompRest prog w A h₀ L m env elt x scope cl s S P Fin k i ys news := by
  intro k
  induction k with
  | zero =>
    intro i ys news e j
    obtain rfl : i = n := by omega
    exact LCg.CompRest.zero (fin ys news j)
  | succ k ih =>
    intro i ys news e j
    refine LCg.CompRest.succ fun v I oI C oC D m₂ h tk E' hP hC hx F N off ne => ?_
    refine wpAny_mono (step i ys news v I oI C oC D m₂ h tk E' (by omega) j hP hC hx F N off ne) (fun y s' z => ?_) fun _ _ e => e
    exact compEnd_mono z fun news' r => ih (i + 1) (ys ++ [y]) news' (by omega) r
theorem tree_news0 {h₀ h : Heap} {L : Addr} {p1 p2 p3 p4 p5 eS eM eI : Addr × Obj} {tl rest : Led} (N : News h₀ L h (eS :: eM :: (tl ++ ([p1, p2, p3, p4, p5] ++ eI :: rest)))) : News h₀ L h (eS :: eM :: eI :: (tl ++ rest)) := by
  refine newsSub N fun p hp => ?_
  simp only [List.mem_cons, List.mem_append] at hp ⊢
  rcases hp with h | h | h | h | h <;> simp [h]
theorem tree_end0 {aS aM aI : Addr} {vs vs1 ms mn is : List Value} {ns1 : List Int} {n n1 n2 n21 n3 : Nat} {rest tl : Led} {B : Nat} {t : Tr} {r : Value} {p1 p2 p3 p4 p5 : Addr × Obj} (hB : 1 ≤ B)
    (q1 : IntsAre vs1 ns1) (q2 : vs1.length ≤ vs.length) (q3 : Tr.In tl t r) (q4 : t.ok ms.length (ms ++ mn).length) (q5 : Made tl mn t.post) (q6 : mn.length ≤ 1)
    (q7 : Abv (aS :: aM :: ([p1, p2, p3, p4, p5] ++ (aI, listOf is.toArray n3) :: rest).map (·.1)) tl) :
    TreeOut aS aM aI vs n ms n2 is n3 rest B r ((aS, listOf vs1.toArray n1) :: (aM, listOf (ms ++ mn).toArray n21) :: (aI, listOf is.toArray n3) :: (tl ++ rest)) := by
  refine ⟨vs1, ns1, n1, mn, n21, [], n3, t, tl, q1, q2, by rw [List.append_nil], q3, q4, q5, .nil, Nat.le_trans q6 hB, Nat.zero_le _, q7.sub (mv_end0 (f := fun x : Addr × Obj => x.1) (e := (aI, listOf is.toArray n3)))⟩
theorem bnd_pos (d : Nat) : 1 ≤ bnd d := by cases d <;> simp [bnd]
end Mine
end

open PySem PySem.W PyProof.Rows PySem.Calls PySem.Spec
local macro_rules | `(tactic| units_room) => `(tactic| k_extra "@units_room")
local macro_rules | `(tactic| ktr_room) => `(tactic| k_extra "@ktr_room")
local macro_rules | `(tactic| ktr_units) => `(tactic| k_extra "@ktr_units")
local macro_rules | `(tactic| k_all) => `(tactic| k_extra "@k_all")
local macro_rules | `(tactic| k_ne) => `(tactic| k_extra "@k_ne")
local macro_rules | `(tactic| k_mem) => `(tactic| k_extra "@k_mem")
local macro_rules | `(tactic| walk_at $s:str) => `(tactic| k_extra $s)

section
open PySem PySem.W PyProof.Rows PySem.Calls PySem.Spec
set_option maxRecDepth 100000
namespace Mine

set_option maxHeartbeats 4000000 in
theorem pull (prog : Program) (w : World) (mean : ExcName → Option Value) (mg mb : Str → Option Value) (aS : Addr) (vs : List Value) (ns : List Int) (n : Nat) (ways : Int) (wtk : Tok) (rest : List (Addr × Obj))
    (hi : IntsAre vs ns) (hw : 0 < ways) (hw2 : ways < 20) (hoff : ∀ p ∈ rest, p.1 ≠ aS) (hlen : vs.length ≤ 200) :
    Gives prog w mean mg mb 101 [.ref aS, .int ways wtk] ((aS, listOf vs.toArray n) :: rest) 5 200
      (fun r news' => ∃ i t vs' ns' n', r = .int i t ∧ 0 ≤ i ∧ i < ways ∧ IntsAre vs' ns' ∧ vs'.length ≤ vs.length ∧ news' = (aS, listOf vs'.toArray n') :: rest) := by
  w_top off
  k_with_none
  (k_with "nepick" => (first | (refine Nat.ne_of_lt ?_; first | exact Mine.pl_0 (by with_reducible assumption) | exact Mine.pl_1 (by with_reducible assumption) | exact Mine.pl_2 (by with_reducible assumption) | exact Mine.pl_3 (by with_reducible assumption) | exact Mine.pl_4 (by with_reducible assumption) | exact Mine.pl_5 (by with_reducible assumption) | exact Mine.pl_6 (by with_reducible assumption) | exact Mine.pl_7 (by with_reducible assumption) | exact Mine.pl_8 (by with_reducible assumption) | exact Mine.pl_9 (by with_reducible assumption) | exact Mine.pl_10 (by with_reducible assumption) | exact Mine.pl_11 (by with_reducible assumption) | exact Mine.pl_12 (by with_reducible assumption) | exact Mine.pl_13 (by with_reducible assumption) | exact Mine.pl_14 (by with_reducible assumption) | exact Mine.pl_15 (by with_reducible assumption) | exact Mine.pl_16 (by with_reducible assumption) | (refine Nat.lt_succ_of_lt ?_; first | exact Mine.pl_0 (by with_reducible assumption) | exact Mine.pl_1 (by with_reducible assumption) | exact Mine.pl_2 (by with_reducible assumption) | (refine Nat.lt_succ_of_lt ?_; first | exact Mine.pl_0 (by with_reducible assumption) | exact Mine.pl_1 (by with_reducible assumption) | exact Mine.pl_2 (by with_reducible assumption) | (refine Nat.lt_succ_of_lt ?_; first | exact Mine.pl_0 (by with_reducible assumption) | exact Mine.pl_1 (by with_reducible assumption) | exact Mine.pl_2 (by with_reducible assumption) | (refine Nat.lt_succ_of_lt ?_; first | exact Mine.pl_0 (by with_reducible assumption) | exact Mine.pl_1 (by with_reducible assumption) | exact Mine.pl_2 (by with_reducible assumption) | (refine Nat.lt_succ_of_lt ?_; first | exact Mine.pl_0 (by with_reducible assumption) | exact Mine.pl_1 (by with_reducible assumption) | exact Mine.pl_2 (by with_reducible assumption))))))) | (refine Ne.symm (Nat.ne_of_lt ?_); first | exact Mine.pl_0 (by with_reducible assumption) | exact Mine.pl_1 (by with_reducible assumption) | exact Mine.pl_2 (by with_reducible assumption) | exact Mine.pl_3 (by with_reducible assumption) | exact Mine.pl_4 (by with_reducible assumption) | exact Mine.pl_5 (by with_reducible assumption) | exact Mine.pl_6 (by with_reducible assumption) | exact Mine.pl_7 (by with_reducible assumption) | exact Mine.pl_8 (by with_reducible assumption) | exact Mine.pl_9 (by with_reducible assumption) | exact Mine.pl_10 (by with_reducible assumption) | exact Mine.pl_11 (by with_reducible assumption) | exact Mine.pl_12 (by with_reducible assumption) | exact Mine.pl_13 (by with_reducible assumption) | exact Mine.pl_14 (by with_reducible assumption) | exact Mine.pl_15 (by with_reducible assumption) | exact Mine.pl_16 (by with_reducible assumption))))
  (k_with "@units_room" => (have hcL' := cLine_is; simp only [units_in1, units_deeper, Around.mark_units]; dsimp only [ktrTop]; omega))
  (k_with "@k_all" => assumption)
  (k_with "@k_ne" => (refine neN ?_; (try dsimp only); first | with_reducible assumption | (refine Ne.symm ?_; with_reducible assumption) | k_extra "nepick"))
  (k_with "call builtin:list.pop" => (k_here; (with_reducible show wpAny _ _ (call (Value.builtin _) [Value.ref _]) _ _ _); k_dflt (refine' kpa_pop (by k_asm) (by k_asm) (by k_upd) (by assumption) ?neZq ?zZq ?_; (case neZq => ((rename (decide (_ = []) = false) => hp9); (have hq9Zq := of_decide_eq_false hp9); (rename IntsAre _ _ => hI9Zq); (have hL9Zq := IntsAre.length hI9Zq); (have hz9Zq := List.length_pos_iff.mpr hq9Zq); omega)); (case zZq => (rw [sizeLine_eq]; omega))); intro _ _ _ _ _))
  unfold Gives
  intro dp un gd cn cs a ccd cl outer A₀ base h₀ L m s Q E B F X N T hk hd hu hret
  refine wpAny_call ?_
  k_dflt ktr_enter
  rename Fr _ _ _ (fun y => List.lookup y _) => F9
  replace F9 : Fr _ _ _ (fun y => ([(Str.ofString "ways", .int ways wtk), (Str.ofString "stack", .ref aS)] : List (Str × Value)).lookup y) := F9
  k_steps
  · exact hret _ _ _ _ (by assumption) (fun p hp => (by assumption : News _ _ _ _) p (.tail _ hp)) ⟨0, _, vs, ns, n, rfl, Int.le_refl 0, hw, hi, Nat.le_refl _, rfl⟩
  · rename_i hd9 _ _ _ _
    refine hret _ _ _ _ (by assumption) (fun p hp => (by assumption : News _ _ _ _) p (.tail _ hp)) ⟨_, _, vs.dropLast, ns.dropLast, n + 1, rfl, Int.fmod_nonneg_of_pos _ hw, Int.fmod_lt_of_pos _ hw, hd9, by simp, rfl⟩
end Mine
namespace Mine
/-- the use of pull at a call site: the stack's entry lies anywhere in the ledger -/
theorem pull_use {prog : Program} {w : World} {mean : ExcName → Option Value} {mg mb : Str → Option Value} {aS : Addr} {vs : List Value} {ns : List Int} {n : Nat} {ways : Int} {wtk : Tok} {news : Led} {g : Obj → Led}
    {dp u : Nat} {gd : Option (List Code)} {cn : Str} {cs : Scope} {a : Addr} {ccd : Value} {cl : List (Str × Addr)} {outer : List Env} {A₀ : Around} {base h₀ : Heap} {L : Addr} {m : Str → Option Value} {s : Shared} {Q E : Value → Shared → Prop}
    (B : Below A₀ base outer h₀) (F : Fr h₀ L s.heap m) (X : (hd.heap_1_39 w.params).In h₀) (N : News h₀ L s.heap news) (T : Top hd.view_1_40 (looseW hd.view_1_40 [Str.ofString "GateloomError"]) mean mg mb h₀) (hk : cs.kind = .function)
    (U : UpdF aS (listOf vs.toArray n) news g) (hi : IntsAre vs ns) (hw : 0 < ways) (hw2 : ways < 20) (hlen : vs.length ≤ 200) (hd : dp + 5 < recursionLimit) (hu : u + 200 < cLine)
    (ret : ∀ i t vs' ns' n' h' tk', 0 ≤ i → i < ways → IntsAre vs' ns' → vs'.length ≤ vs.length → Fr h₀ L h' m → News h₀ L h' (g (listOf vs'.toArray n')) → Q (.int i t) { s with heap := h', toks := tk' }) :
    wpAny (model prog w) (ktrTop dp u gd cn cs L a ccd cl outer) (call (.ref 101) [.ref aS, .int ways wtk]) Q E s := by
  obtain ⟨pre, post, rfl, hg, h1, h2⟩ := U.split
  refine pull prog w mean mg mb aS vs ns n ways wtk (pre ++ post) hi hw hw2 (fun p hp => (List.mem_append.mp hp).elim (h1 p) (h2 p)) hlen dp u gd cn cs a ccd cl outer A₀ base h₀ L m s Q E B F X ?_ T hk hd hu ?_
  · intro p hp
    refine N p ?_
    rcases List.mem_cons.mp hp with rfl | hp
    · simp
    · rcases List.mem_append.mp hp with h | h <;> simp [h]
  · rintro r news' h' tk' F' N' ⟨i, t, vs', ns', n', rfl, e1, e2, e3, e4, rfl⟩
    refine ret i t vs' ns' n' h' tk' e1 e2 e3 e4 F' ?_
    rw [hg]
    intro p hp
    refine N' p ?_
    rcases List.mem_append.mp hp with h | h
    · simp [h]
    · rcases List.mem_cons.mp h with rfl | h <;> simp [*]
end Mine
end

section
open PySem PySem.W PyProof.Rows PySem.Calls PySem.Spec
set_option maxRecDepth 100000
namespace Mine

set_option maxHeartbeats 4000000 in
theorem leaf (prog : Program) (w : World) (mean : ExcName → Option Value) (mg mb : Str → Option Value) (aS aM : Addr) (vs : List Value) (ns : List Int) (n : Nat) (ms : List Value) (n2 : Nat) (rest : Led)
    (hi : IntsAre vs ns) (hoff : ∀ p ∈ rest, p.1 ≠ aS) (hoff2 : ∀ p ∈ rest, p.1 ≠ aM) (hSM : @Ne Nat aS aM) (hlen : vs.length ≤ 200) (hlen2 : ms.length ≤ 200) :
    Gives prog w mean mg mb 108 [.ref aS, .ref aM] ((aS, listOf vs.toArray n) :: (aM, listOf ms.toArray n2) :: rest) 10 300
      (LeafOut aS aM vs n ms n2 rest) := by
  w_top off
  k_with_none
  (k_with "nepick" => (first | (refine Nat.ne_of_lt ?_; first | exact Mine.pl_0 (by with_reducible assumption) | exact Mine.pl_1 (by with_reducible assumption) | exact Mine.pl_2 (by with_reducible assumption) | exact Mine.pl_3 (by with_reducible assumption) | exact Mine.pl_4 (by with_reducible assumption) | exact Mine.pl_5 (by with_reducible assumption) | exact Mine.pl_6 (by with_reducible assumption) | exact Mine.pl_7 (by with_reducible assumption) | exact Mine.pl_8 (by with_reducible assumption) | exact Mine.pl_9 (by with_reducible assumption) | exact Mine.pl_10 (by with_reducible assumption) | exact Mine.pl_11 (by with_reducible assumption) | exact Mine.pl_12 (by with_reducible assumption) | exact Mine.pl_13 (by with_reducible assumption) | exact Mine.pl_14 (by with_reducible assumption) | exact Mine.pl_15 (by with_reducible assumption) | exact Mine.pl_16 (by with_reducible assumption) | (refine Nat.lt_succ_of_lt ?_; first | exact Mine.pl_0 (by with_reducible assumption) | exact Mine.pl_1 (by with_reducible assumption) | exact Mine.pl_2 (by with_reducible assumption) | (refine Nat.lt_succ_of_lt ?_; first | exact Mine.pl_0 (by with_reducible assumption) | exact Mine.pl_1 (by with_reducible assumption) | exact Mine.pl_2 (by with_reducible assumption) | (refine Nat.lt_succ_of_lt ?_; first | exact Mine.pl_0 (by with_reducible assumption) | exact Mine.pl_1 (by with_reducible assumption) | exact Mine.pl_2 (by with_reducible assumption) | (refine Nat.lt_succ_of_lt ?_; first | exact Mine.pl_0 (by with_reducible assumption) | exact Mine.pl_1 (by with_reducible assumption) | exact Mine.pl_2 (by with_reducible assumption) | (refine Nat.lt_succ_of_lt ?_; first | exact Mine.pl_0 (by with_reducible assumption) | exact Mine.pl_1 (by with_reducible assumption) | exact Mine.pl_2 (by with_reducible assumption))))))) | (refine Ne.symm (Nat.ne_of_lt ?_); first | exact Mine.pl_0 (by with_reducible assumption) | exact Mine.pl_1 (by with_reducible assumption) | exact Mine.pl_2 (by with_reducible assumption) | exact Mine.pl_3 (by with_reducible assumption) | exact Mine.pl_4 (by with_reducible assumption) | exact Mine.pl_5 (by with_reducible assumption) | exact Mine.pl_6 (by with_reducible assumption) | exact Mine.pl_7 (by with_reducible assumption) | exact Mine.pl_8 (by with_reducible assumption) | exact Mine.pl_9 (by with_reducible assumption) | exact Mine.pl_10 (by with_reducible assumption) | exact Mine.pl_11 (by with_reducible assumption) | exact Mine.pl_12 (by with_reducible assumption) | exact Mine.pl_13 (by with_reducible assumption) | exact Mine.pl_14 (by with_reducible assumption) | exact Mine.pl_15 (by with_reducible assumption) | exact Mine.pl_16 (by with_reducible assumption))))
  (k_with "@units_room" => (have hcL' := cLine_is; simp only [units_in1, units_deeper, Around.mark_units]; dsimp only [ktrTop]; omega))
  (k_with "@k_all" => assumption)
  (k_with "@k_ne" => (refine neN ?_; (try dsimp only); first | with_reducible assumption | (refine Ne.symm ?_; with_reducible assumption) | k_extra "nepick"))
  (k_with "call ref" => (k_here; k_dflt (refine' pull_use ?BZq ?FZq ?XZq ?NZq ?TZq ?hkZq ?UZq ?hiZq ?haZq ?hbZq ?hlZq ?hdZq ?huZq ?_); (case BZq => k_asm); (case FZq => k_asm); (case XZq => k_asm); (case NZq => k_asm); (case TZq => k_asm); (case hkZq => rfl); (case UZq => k_updF); (case hiZq => assumption); (case haZq => decide); (case hbZq => decide); (case hlZq => omega); (case hdZq => ktr_room); (case huZq => ktr_units); intro _ _ _ _ _ _ _ _ _ _ _ _ _; (try dsimp only); (try k_sweep)))
  (k_with "subscriptTail" => (k_here; k_dflt (refine' my_kw (by k_asm) (by omega) (by omega) ?_); intro _; (try dsimp only)))
  (k_with "call builtin:len" => (k_here; k_dflt (refine' my_len (by k_asm) (by k_mem) (by first | assumption | omega) ?_); (try dsimp only)))
  unfold Gives
  intro dp un gd cn cs a ccd cl outer A₀ base h₀ L m s Q E B F X N T hk hd hu hret
  refine wpAny_call ?_
  k_dflt ktr_enter
  rename Fr _ _ _ (fun y => List.lookup y _) => F9
  replace F9 : Fr _ _ _ (fun y => ([(Str.ofString "made", .ref aM), (Str.ofString "stack", .ref aS)] : List (Str × Value)).lookup y) := F9
  generalize s.toks + _ = tk0
  k_steps
  · exact hret _ _ _ _ (by assumption) (by assumption) ⟨_, _, _, [], _, .no, [], by assumption, by assumption, by rw [List.append_nil]; rfl, by rw [Tr.In], by rw [Tr.ok, List.append_nil], by rw [Tr.post]; exact .nil, Nat.zero_le _, .nil⟩
  refine hret _ _ _ _ (by assumption) (leaf_news (by assumption)) (leaf_end ?_ ?_ (by assumption) (by assumption) rfl (by assumption) (by assumption) (by assumption) (by assumption) rfl)
  all_goals omega

/-- the use of leaf: between the made list and the rest another list of the ledger may stand -/
theorem leaf_use {prog : Program} {w : World} {mean : ExcName → Option Value} {mg mb : Str → Option Value} {aS aM : Addr} {vs : List Value} {ns : List Int} {n : Nat} {ms : List Value} {n2 : Nat} {pre rest : Led}
    {dp u : Nat} {gd : Option (List Code)} {cn : Str} {cs : Scope} {a : Addr} {ccd : Value} {cl : List (Str × Addr)} {outer : List Env} {A₀ : Around} {base h₀ : Heap} {L : Addr} {m : Str → Option Value} {s : Shared} {Q E : Value → Shared → Prop}
    (B : Below A₀ base outer h₀) (F : Fr h₀ L s.heap m) (X : (hd.heap_1_39 w.params).In h₀) (N : News h₀ L s.heap (pre ++ (aS, listOf vs.toArray n) :: (aM, listOf ms.toArray n2) :: rest)) (T : Top hd.view_1_40 (looseW hd.view_1_40 [Str.ofString "GateloomError"]) mean mg mb h₀) (hk : cs.kind = .function)
    (hi : IntsAre vs ns) (hSM : @Ne Nat aS aM) (h1 : ∀ p ∈ pre ++ rest, p.1 ≠ aS) (h2 : ∀ p ∈ pre ++ rest, p.1 ≠ aM) (hlen : vs.length ≤ 200) (hlen2 : ms.length ≤ 200) (hd : dp + 10 < recursionLimit) (hu : u + 300 < cLine)
    (ret : ∀ vs' ns' n' mn n2' t tl r h' tk', IntsAre vs' ns' → vs'.length ≤ vs.length → Tr.In tl t r → t.ok ms.length (ms ++ mn).length → Made tl mn t.post → mn.length ≤ 1 →
      Abv (aS :: aM :: (pre ++ rest).map (·.1)) tl → Fr h₀ L h' m → News h₀ L h' ((aS, listOf vs'.toArray n') :: (aM, listOf (ms ++ mn).toArray n2') :: (tl ++ (pre ++ rest))) → Q r { s with heap := h', toks := tk' }) :
    wpAny (model prog w) (ktrTop dp u gd cn cs L a ccd cl outer) (call (.ref 108) [.ref aS, .ref aM]) Q E s := by
  refine leaf prog w mean mg mb aS aM vs ns n ms n2 (pre ++ rest) hi h1 h2 hSM hlen hlen2 dp u gd cn cs a ccd cl outer A₀ base h₀ L m s Q E B F X ?_ T hk hd hu ?_
  · refine newsSub N fun p hp => ?_
    simp only [List.mem_cons, List.mem_append] at hp ⊢
    rcases hp with h | h | h | h <;> simp [h]
  · rintro r news' h' tk' F' N' ⟨vs', ns', n', mn, n2', t, tl, e1, e2, rfl, e4, e5, e6, e7, e8⟩
    exact ret vs' ns' n' mn n2' t tl r h' tk' e1 e2 e4 e5 e6 e7 e8 F' N'
end Mine
end

section
open PySem PySem.W PyProof.Rows PySem.Calls PySem.Spec
set_option maxRecDepth 100000
namespace Mine

noncomputable def TreeGives (prog : Program) (w : World) (mean : ExcName → Option Value) (mg mb : Str → Option Value) (d : Nat) : Prop :=
  ∀ (aS aM aI : Addr) (vs : List Value) (ns : List Int) (n : Nat) (ms : List Value) (n2 : Nat) (is : List Value) (n3 : Nat) (rest : Led) (deep : Int) (tk : Tok),
    IntsAre vs ns → (∀ p ∈ rest, p.1 ≠ aS) → (∀ p ∈ rest, p.1 ≠ aM) → (∀ p ∈ rest, p.1 ≠ aI) → @Ne Nat aS aM → @Ne Nat aS aI → @Ne Nat aM aI → vs.length ≤ 200 → ms.length + bnd d ≤ 200 → is.length + bnd d ≤ 200 → deep = 4 - (d : Int) → d ≤ 4 →
    Gives prog w mean mg mb 113 [.ref aS, .ref aM, .ref aI, .int deep tk] ((aS, listOf vs.toArray n) :: (aM, listOf ms.toArray n2) :: (aI, listOf is.toArray n3) :: rest) (10 * d + 30) (100 * d + 500) (TreeOut aS aM aI vs n ms n2 is n3 rest (bnd d))

set_option maxHeartbeats 4000000 in
theorem tree0 (prog : Program) (w : World) (mean : ExcName → Option Value) (mg mb : Str → Option Value) : TreeGives prog w mean mg mb 0 := by
  w_top off
  k_with_none
  (k_with "nepick" => (first | (refine Nat.ne_of_lt ?_; first | exact Mine.pl_0 (by with_reducible assumption) | exact Mine.pl_1 (by with_reducible assumption) | exact Mine.pl_2 (by with_reducible assumption) | exact Mine.pl_3 (by with_reducible assumption) | exact Mine.pl_4 (by with_reducible assumption) | exact Mine.pl_5 (by with_reducible assumption) | exact Mine.pl_6 (by with_reducible assumption) | exact Mine.pl_7 (by with_reducible assumption) | exact Mine.pl_8 (by with_reducible assumption) | exact Mine.pl_9 (by with_reducible assumption) | exact Mine.pl_10 (by with_reducible assumption) | exact Mine.pl_11 (by with_reducible assumption) | exact Mine.pl_12 (by with_reducible assumption) | exact Mine.pl_13 (by with_reducible assumption) | exact Mine.pl_14 (by with_reducible assumption) | exact Mine.pl_15 (by with_reducible assumption) | exact Mine.pl_16 (by with_reducible assumption) | (refine Nat.lt_succ_of_lt ?_; first | exact Mine.pl_0 (by with_reducible assumption) | exact Mine.pl_1 (by with_reducible assumption) | exact Mine.pl_2 (by with_reducible assumption) | (refine Nat.lt_succ_of_lt ?_; first | exact Mine.pl_0 (by with_reducible assumption) | exact Mine.pl_1 (by with_reducible assumption) | exact Mine.pl_2 (by with_reducible assumption) | (refine Nat.lt_succ_of_lt ?_; first | exact Mine.pl_0 (by with_reducible assumption) | exact Mine.pl_1 (by with_reducible assumption) | exact Mine.pl_2 (by with_reducible assumption) | (refine Nat.lt_succ_of_lt ?_; first | exact Mine.pl_0 (by with_reducible assumption) | exact Mine.pl_1 (by with_reducible assumption) | exact Mine.pl_2 (by with_reducible assumption) | (refine Nat.lt_succ_of_lt ?_; first | exact Mine.pl_0 (by with_reducible assumption) | exact Mine.pl_1 (by with_reducible assumption) | exact Mine.pl_2 (by with_reducible assumption))))))) | (refine Ne.symm (Nat.ne_of_lt ?_); first | exact Mine.pl_0 (by with_reducible assumption) | exact Mine.pl_1 (by with_reducible assumption) | exact Mine.pl_2 (by with_reducible assumption) | exact Mine.pl_3 (by with_reducible assumption) | exact Mine.pl_4 (by with_reducible assumption) | exact Mine.pl_5 (by with_reducible assumption) | exact Mine.pl_6 (by with_reducible assumption) | exact Mine.pl_7 (by with_reducible assumption) | exact Mine.pl_8 (by with_reducible assumption) | exact Mine.pl_9 (by with_reducible assumption) | exact Mine.pl_10 (by with_reducible assumption) | exact Mine.pl_11 (by with_reducible assumption) | exact Mine.pl_12 (by with_reducible assumption) | exact Mine.pl_13 (by with_reducible assumption) | exact Mine.pl_14 (by with_reducible assumption) | exact Mine.pl_15 (by with_reducible assumption) | exact Mine.pl_16 (by with_reducible assumption))))
  (k_with "@units_room" => (have hcL' := cLine_is; simp only [units_in1, units_deeper, Around.mark_units]; dsimp only [ktrTop]; omega))
  (k_with "@k_all" => assumption)
  (k_with "@k_ne" => (refine neN ?_; (try dsimp only); first | with_reducible assumption | (refine Ne.symm ?_; with_reducible assumption) | k_extra "nepick"))
  (k_with "call ref" => (k_here; k_dflt (refine' pull_use ?BZq ?FZq ?XZq ?NZq ?TZq ?hkZq ?UZq ?hiZq ?haZq ?hbZq ?hlZq ?hdZq ?huZq ?_); (case BZq => k_asm); (case FZq => k_asm); (case XZq => k_asm); (case NZq => k_asm); (case TZq => k_asm); (case hkZq => rfl); (case UZq => k_updF); (case hiZq => assumption); (case haZq => decide); (case hbZq => decide); (case hlZq => omega); (case hdZq => ktr_room); (case huZq => ktr_units); intro _ _ _ _ _ _ _ _ _ _ _ _ _; (try dsimp only); (try k_sweep)))
  (k_with "call ref" => (k_here; k_dflt (refine' leaf_use (pre := [_, _, _, _, _]) ?BZq ?FZq ?XZq ?NZq ?TZq ?hkZq ?hiZq ?hSMZq ?h1Zq ?h2Zq ?hlZq ?hl2Zq ?hdZq ?huZq ?_); (case NZq => k_asm); (case BZq => k_asm); (case FZq => k_asm); (case XZq => k_asm); (case TZq => k_asm); (case hkZq => rfl); (case hiZq => assumption); (case hSMZq => assumption); (case h1Zq => (dsimp only [List.cons_append, List.nil_append]; k_all)); (case h2Zq => (dsimp only [List.cons_append, List.nil_append]; k_all)); (case hlZq => omega); (case hl2Zq => omega); (case hdZq => ktr_room); (case huZq => ktr_units); intro _ _ _ _ _ _ _ _ _ _ _ _ _ _ _ _ _ _ _; (try dsimp only); (try k_sweep)))
  unfold TreeGives Gives
  intro aS aM aI vs ns n ms n2 is n3 rest deep dtk hi hoff hoff2 hoff3 hSM hSI hMI hlen hlen2 hlen3 hdeep hd4 dp un gd cn cs a ccd cl outer A₀ base h₀ L m s Q E B F X N T hk hd hu hret
  refine wpAny_call ?_
  k_dflt (refine' code_defC ?k1 ?k2 ?k3 ?k4 ?k5 ?kA ?kF ?kK ?k6 ?k7 ?k8 ?k9 ?kB ?kD ?_ ?c2 ?c3 ?c4; (case kA => exact rfl); (case kF => exact rfl); (case kK => assumption); (case k1 => k_asm); (case k2 => k_asm); (case k3 => k_asm); (case k4 => k_asm); (case k5 => k_asm); (case k6 => k_is); (case k7 => k_is); (case k8 => ktr_room); (case k9 => exact BindsTo.of_eq rfl); (case kB => exact rfl); (case kD => decide +kernel); (case c2 => exact rfl); (case c3 => exact rfl); (case c4 => exact rfl))
  intro g9 L9 h9 tk9 cells9 FG9 F9 N9 Y9 B9 X9 T9 l9
  obtain ⟨o1, o2, o3, o4, o5, hE, e1, e2, e3, e4, e5⟩ := kc_five Y9
  subst hE
  clear Y9
  k_lt l9
  replace F9 : Fr g9 L9 h9 (fun _ => none) := F9
  replace e1 : o1.data = .cell none := e1
  replace e2 : o2.data = .cell (some (.int deep dtk)) := e2
  replace e3 : o3.data = .cell (some (.ref aI)) := e3
  replace e4 : o4.data = .cell (some (.ref aM)) := e4
  replace e5 : o5.data = .cell (some (.ref aS)) := e5
  simp only [List.cons_append, List.nil_append] at N9
  dsimp only
  try k_fold
  k_steps
  exact hret _ _ _ _ (by assumption) (tree_news0 (by assumption)) (tree_end0 (bnd_pos 0) (by assumption) (by assumption) (by assumption) (by assumption) (by assumption) (by assumption) (by assumption))
end Mine
end

section
open PySem PySem.W PyProof.Rows PySem.Calls PySem.Spec
set_option maxRecDepth 100000
namespace Mine

/-- what holds ahead of turn i of the comprehension that builds the kids -/
noncomputable def KidsJ (cells : Led) (aS aM aI : Addr) (vs ms is : List Value) (rest : Led) (Bd : Nat) (i : Nat) (ys : List Value) (news : Led) : Prop :=
  ∃ vs' ns' n' mn n2' inn n3' ts tl, news = cells ++ (aS, listOf vs'.toArray n') :: (aM, listOf (ms ++ mn).toArray n2') :: (aI, listOf (is ++ inn).toArray n3') :: (tl ++ rest) ∧ IntsAre vs' ns' ∧ vs'.length ≤ vs.length ∧
    Tr.AllIn tl ts ys ∧ Tr.okAll ts ms.length (ms ++ mn).length ∧ Made tl mn (Tr.postAll ts) ∧ Inside tl inn ∧ mn.length ≤ i * Bd ∧ inn.length ≤ i * Bd ∧ ys.length = i ∧
    Abv (cells.map (·.1) ++ aS :: aM :: aI :: rest.map (·.1)) tl

theorem TupSub.append_l {tl tl' : Led} : ∀ p ∈ tl, p ∈ tl' ++ tl := fun _ h => List.mem_append.mpr (.inr h)
theorem TupSub.append_r {tl tl' : Led} : ∀ p ∈ tl, p ∈ tl ++ tl' := fun _ h => List.mem_append.mpr (.inl h)

theorem KidsJ.elim {cells : Led} {aS aM aI : Addr} {vs ms is : List Value} {rest : Led} {Bd i : Nat} {ys : List Value} {news : Led} {P : Led → Prop} (J : KidsJ cells aS aM aI vs ms is rest Bd i ys news)
    (k : ∀ vs' ns' n' mn n2' inn n3' ts tl, IntsAre vs' ns' → vs'.length ≤ vs.length → Tr.AllIn tl ts ys → Tr.okAll ts ms.length (ms ++ mn).length → Made tl mn (Tr.postAll ts) → Inside tl inn → mn.length ≤ i * Bd → inn.length ≤ i * Bd → ys.length = i → Abv (cells.map (·.1) ++ aS :: aM :: aI :: rest.map (·.1)) tl →
      P (cells ++ (aS, listOf vs'.toArray n') :: (aM, listOf (ms ++ mn).toArray n2') :: (aI, listOf (is ++ inn).toArray n3') :: (tl ++ rest))) : P news := by
  obtain ⟨vs', ns', n', mn, n2', inn, n3', ts, tl, rfl, j0, j1, j2, j3, j4, j5, j6, j7, j8, j9⟩ := J
  exact k vs' ns' n' mn n2' inn n3' ts tl j0 j1 j2 j3 j4 j5 j6 j7 j8 j9
theorem TreeOut.elim {aS aM aI : Addr} {vs : List Value} {n : Nat} {ms : List Value} {n2 : Nat} {is : List Value} {n3 : Nat} {rest : Led} {B : Nat} {r : Value} {news' : Led} {P : Led → Prop} (z : TreeOut aS aM aI vs n ms n2 is n3 rest B r news')
    (k : ∀ vs' ns' n' mn n2' inn n3' t tl, IntsAre vs' ns' → vs'.length ≤ vs.length → Tr.In tl t r → t.ok ms.length (ms ++ mn).length → Made tl mn t.post → Inside tl inn → mn.length ≤ B → inn.length ≤ B → Abv (aS :: aM :: aI :: rest.map (·.1)) tl →
      P ((aS, listOf vs'.toArray n') :: (aM, listOf (ms ++ mn).toArray n2') :: (aI, listOf (is ++ inn).toArray n3') :: (tl ++ rest))) : P news' := by
  obtain ⟨vs', ns', n', mn, n2', inn, n3', t, tl, j0, j1, rfl, j2, j3, j4, j5, j6, j7, j8⟩ := z
  exact k vs' ns' n' mn n2' inn n3' t tl j0 j1 j2 j3 j4 j5 j6 j7 j8
/-- one more kid -/
theorem KidsJ.step {cells : Led} {aS aM aI : Addr} {vs vs' vs2 ms mn mn2 is inn inn2 : List Value} {ns2 : List Int} {n2 n4 n6 : Nat} {rest tl tl2 : Led} {Bd i : Nat} {ts : List Tr} {t : Tr} {ys : List Value} {y : Value} {X : List Addr}
    (h1 : vs'.length ≤ vs.length) (h2 : Tr.AllIn tl ts ys) (h3 : Tr.okAll ts ms.length (ms ++ mn).length) (h4 : Made tl mn (Tr.postAll ts)) (h5 : Inside tl inn) (h6 : mn.length ≤ i * Bd) (h7 : inn.length ≤ i * Bd) (h8 : ys.length = i)
    (h9 : Abv (cells.map (·.1) ++ aS :: aM :: aI :: rest.map (·.1)) tl)
    (g1 : IntsAre vs2 ns2) (g2 : vs2.length ≤ vs'.length) (g3 : Tr.In tl2 t y) (g4 : t.ok (ms ++ mn).length ((ms ++ mn) ++ mn2).length) (g5 : Made tl2 mn2 t.post) (g6 : Inside tl2 inn2) (g7 : mn2.length ≤ Bd) (g8 : inn2.length ≤ Bd)
    (g9 : Abv X tl2) (gX : ∀ a ∈ cells.map (·.1) ++ aS :: aM :: aI :: rest.map (·.1), a ∈ X) :
    KidsJ cells aS aM aI vs ms is rest Bd (i + 1) (ys ++ [y]) (cells ++ (aS, listOf vs2.toArray n2) :: (aM, listOf ((ms ++ mn) ++ mn2).toArray n4) :: (aI, listOf ((is ++ inn) ++ inn2).toArray n6) :: ((tl2 ++ tl) ++ rest)) := by
  refine ⟨vs2, ns2, n2, mn ++ mn2, n4, inn ++ inn2, n6, ts ++ [t], tl2 ++ tl, by rw [List.append_assoc, List.append_assoc], g1, Nat.le_trans g2 h1, ?_, ?_, ?_, ?_, ?_, ?_, ?_, ?_⟩
  · exact Tr.allIn_snoc (h2.mono TupSub.append_l) (g3.mono TupSub.append_r)
  · rw [← List.append_assoc]; exact Tr.okAll_snoc h3 g4
  · rw [Tr.postAll_snoc]; exact (h4.mono TupSub.append_l).append (g5.mono TupSub.append_r)
  · exact (h5.mono TupSub.append_l).append (g6.mono TupSub.append_r)
  · rw [List.length_append, Nat.succ_mul]; omega
  · rw [List.length_append, Nat.succ_mul]; omega
  · rw [List.length_append, h8]; rfl
  · exact (g9.sub gX).append h9

theorem mv_in {α : Type} {i c d s m a : α} {cs t r : List α} : ∀ p ∈ s :: m :: a :: i :: c :: d :: (cs ++ (t ++ r)), p ∈ i :: c :: d :: (cs ++ s :: m :: a :: (t ++ r)) := by
  intro p hp
  simp only [List.mem_cons, List.mem_append] at hp ⊢
  rcases hp with h | h | h | h | h | h | h | h | h <;> simp only [h, true_or, or_true]
theorem mv_out {α : Type} {i c d s m a : α} {cs t2 t r : List α} : ∀ p ∈ i :: c :: d :: (cs ++ s :: m :: a :: ((t2 ++ t) ++ r)), p ∈ s :: m :: a :: (t2 ++ i :: c :: d :: (cs ++ (t ++ r))) := by
  intro p hp
  simp only [List.mem_cons, List.mem_append] at hp ⊢
  rcases hp with h | h | h | h | h | h | h | (h | h) | h <;> simp only [h, true_or, or_true]
theorem all_in {α : Type} {P : α → Prop} {i c d : α} {cs t r : List α} (h1 : P i) (h2 : P c) (h3 : P d) (h4 : ∀ p ∈ cs, P p) (h5 : ∀ p ∈ t, P p) (h6 : ∀ p ∈ r, P p) : ∀ p ∈ i :: c :: d :: (cs ++ (t ++ r)), P p := by
  intro p hp
  simp only [List.mem_cons, List.mem_append] at hp
  rcases hp with rfl | rfl | rfl | h | h | h
  · exact h1
  · exact h2
  · exact h3
  · exact h4 p h
  · exact h5 p h
  · exact h6 p h
theorem all_out {α : Type} {P : α → Prop} {s m a : α} {cs t2 t r : List α} (h4 : ∀ p ∈ cs, P p) (h1 : P s) (h2 : P m) (h3 : P a) (h5 : ∀ p ∈ t2, P p) (h6 : ∀ p ∈ t, P p) (h7 : ∀ p ∈ r, P p) : ∀ p ∈ cs ++ s :: m :: a :: ((t2 ++ t) ++ r), P p := by
  intro p hp
  simp only [List.mem_cons, List.mem_append] at hp
  rcases hp with h | rfl | rfl | rfl | (h | h) | h
  · exact h4 p h
  · exact h1
  · exact h2
  · exact h3
  · exact h5 p h
  · exact h6 p h
  · exact h7 p h
theorem mv_ad {α β : Type} {f : α → β} {i c d : α} {s m a : β} {cs t r : List α} : ∀ b ∈ cs.map f ++ s :: m :: a :: r.map f, b ∈ s :: m :: a :: (i :: c :: d :: (cs ++ (t ++ r))).map f := by
  intro b hb
  simp only [List.map_cons, List.map_append, List.mem_cons, List.mem_append] at hb ⊢
  rcases hb with h | h | h | h | h <;> simp only [h, true_or, or_true]
theorem m_s {α : Type} {s : α} {cs l : List α} : s ∈ cs ++ s :: l := List.mem_append.mpr (.inr (.head _))
theorem m_m {α : Type} {s m : α} {cs l : List α} : m ∈ cs ++ s :: m :: l := List.mem_append.mpr (.inr (.tail _ (.head _)))
theorem m_a {α : Type} {s m a : α} {cs l : List α} : a ∈ cs ++ s :: m :: a :: l := List.mem_append.mpr (.inr (.tail _ (.tail _ (.head _))))
theorem m_t {α : Type} {s m a : α} {cs t r : List α} : ∀ p ∈ t, p ∈ cs ++ s :: m :: a :: (t ++ r) := fun _ h => List.mem_append.mpr (.inr (.tail _ (.tail _ (.tail _ (List.mem_append.mpr (.inl h))))))
theorem m_r {α : Type} {s m a : α} {cs t r : List α} : ∀ p ∈ r, p ∈ cs ++ s :: m :: a :: (t ++ r) := fun _ h => List.mem_append.mpr (.inr (.tail _ (.tail _ (.tail _ (List.mem_append.mpr (.inr h))))))
/-- the recursive call in the comprehension's turn -/
theorem kids_call {prog : Program} {w : World} {mean : ExcName → Option Value} {mg mb : Str → Option Value} {d : Nat} (IH : TreeGives prog w mean mg mb d) {cells : Led} {aS aM aI : Addr} {vs ms is : List Value} {rest : Led} {i : Nat} {ys : List Value} {deep : Int} {dtk : Tok}
    {dp u : Nat} {gd : Option (List Code)} {cn : Str} {cs : Scope} {a : Addr} {ccd : Value} {cl : List (Str × Addr)} {outer : List Env} {A₀ : Around} {base h₀ : Heap} {L : Addr} {m : Str → Option Value} {s : Shared} {E : Value → Shared → Prop} {I C D : Addr} {oI oC : Obj} {s₀ : Shared} {S : Led → Prop}
    (B : Below A₀ base outer h₀) (F : Fr h₀ L s.heap m) (X : (hd.heap_1_39 w.params).In h₀) (T : Top hd.view_1_40 (looseW hd.view_1_40 [Str.ofString "GateloomError"]) mean mg mb h₀) (hk : cs.kind = .function)
    {vs' : List Value} {ns' : List Int} {n' : Nat} {mn : List Value} {n2' : Nat} {inn : List Value} {n3' : Nat} {ts : List Tr} {tl : Led} (h0 : IntsAre vs' ns') (h1 : vs'.length ≤ vs.length) (h2 : Tr.AllIn tl ts ys) (h3 : Tr.okAll ts ms.length (ms ++ mn).length) (h4 : Made tl mn (Tr.postAll ts)) (h5 : Inside tl inn) (h6 : mn.length ≤ i * bnd d) (h7 : inn.length ≤ i * bnd d) (h8 : ys.length = i) (h9 : Abv (cells.map (·.1) ++ aS :: aM :: aI :: rest.map (·.1)) tl)
    (N : News h₀ L s.heap ((I, oI) :: (C, oC) :: (D, LCg.lst ys) :: (cells ++ (aS, listOf vs'.toArray n') :: (aM, listOf (ms ++ mn).toArray n2') :: (aI, listOf (is ++ inn).toArray n3') :: (tl ++ rest)))) (off : LCg.Off3 I C D (cells ++ (aS, listOf vs'.toArray n') :: (aM, listOf (ms ++ mn).toArray n2') :: (aI, listOf (is ++ inn).toArray n3') :: (tl ++ rest)))
    (hs : s₀.gens = s.gens ∧ s₀.drawn = s.drawn ∧ s₀.os = s.os) (hS : ∀ l, S l)
    (hc1 : ∀ p ∈ cells, p.1 ≠ aS) (hc2 : ∀ p ∈ cells, p.1 ≠ aM) (hc3 : ∀ p ∈ cells, p.1 ≠ aI) (hr1 : ∀ p ∈ rest, p.1 ≠ aS) (hr2 : ∀ p ∈ rest, p.1 ≠ aM) (hr3 : ∀ p ∈ rest, p.1 ≠ aI) (hSM : @Ne Nat aS aM) (hSI : @Ne Nat aS aI) (hMI : @Ne Nat aM aI)
    (hi3 : i < 3) (hlen : vs.length ≤ 200) (hlen2 : ms.length + bnd (d + 1) ≤ 200) (hlen3 : is.length + bnd (d + 1) ≤ 200) (hdeep : deep = 4 - (d : Int)) (hd4 : d ≤ 4) (hd : dp + (10 * d + 30) < recursionLimit) (hu : u + (100 * d + 500) < cLine) :
    wpAny (model prog w) (ktrTop dp u gd cn cs L a ccd cl outer) (call (.ref 113) [.ref aS, .ref aM, .ref aI, .int deep dtk])
      (LCg.CompEnd h₀ L m s₀ I oI C oC D (LCg.lst ys) S (fun y news' => KidsJ cells aS aM aI vs ms is rest (bnd d) (i + 1) (ys ++ [y]) news')) E s := by
  have hbe : bnd (d + 1) = 3 * bnd d + 1 := rfl
  have hmul : i * bnd d ≤ 2 * bnd d := Nat.mul_le_mul_right _ (by omega)
  have O := LCg.Off3.mem off
  have oS := O _ m_s
  have oM := O _ m_m
  have oI' := O _ m_a
  refine IH aS aM aI vs' ns' n' (ms ++ mn) n2' (is ++ inn) n3' ((I, oI) :: (C, oC) :: (D, LCg.lst ys) :: (cells ++ (tl ++ rest))) deep dtk h0 ?_ ?_ ?_ hSM hSI hMI (by omega) ?_ ?_ hdeep hd4 dp u gd cn cs a ccd cl outer A₀ base h₀ L m s _ E B F X (newsSub N mv_in) T hk hd hu ?_
  · exact all_in oS.1.symm oS.2.1.symm oS.2.2.symm hc1 (h9.ne (List.mem_append.mpr (.inr (.head _)))) hr1
  · exact all_in oM.1.symm oM.2.1.symm oM.2.2.symm hc2 (h9.ne (List.mem_append.mpr (.inr (.tail _ (.head _))))) hr2
  · exact all_in oI'.1.symm oI'.2.1.symm oI'.2.2.symm hc3 (h9.ne (List.mem_append.mpr (.inr (.tail _ (.tail _ (.head _)))))) hr3
  · rw [List.length_append]; omega
  · rw [List.length_append]; omega
  · intro r news' h' tk' F' N' z
    refine TreeOut.elim z (P := fun news' => News h₀ L h' news' → LCg.CompEnd h₀ L m s₀ I oI C oC D (LCg.lst ys) S (fun y news' => KidsJ cells aS aM aI vs ms is rest (bnd d) (i + 1) (ys ++ [y]) news') r { s with heap := h', toks := tk' }) ?_ N'
    intro vs2 ns2 n2 mn2 n4 inn2 n6 t tl2 g1 g2 g3 g4 g5 g6 g7 g8 g9 N'
    refine ⟨h', tk', cells ++ (aS, listOf vs2.toArray n2) :: (aM, listOf ((ms ++ mn) ++ mn2).toArray n4) :: (aI, listOf ((is ++ inn) ++ inn2).toArray n6) :: ((tl2 ++ tl) ++ rest), by rw [hs.1, hs.2.1, hs.2.2], F', newsSub N' mv_out, LCg.Off3.of ?_, hS _,
      KidsJ.step h1 h2 h3 h4 h5 h6 h7 h8 h9 g1 g2 g3 g4 g5 g6 g7 g8 g9 mv_ad⟩
    exact all_out (fun p h => O p (List.mem_append.mpr (.inl h))) oS oM oI' (fun p h => ⟨g9.ne (.tail _ (.tail _ (.tail _ (.head _)))) p h, g9.ne (.tail _ (.tail _ (.tail _ (.tail _ (.head _))))) p h, g9.ne (.tail _ (.tail _ (.tail _ (.tail _ (.tail _ (.head _)))))) p h⟩) (fun p h => O p (m_t p h)) (fun p h => O p (m_r p h))

/-- the comprehension's source: the turns by KidsJ -/
theorem kids_src {prog : Program} {w : World} {A : Around} {g : Heap} {L : Addr} {m : Str → Option Value} {env : Env} {elt : PySem.Expr} {x : Str} {scope : Scope} {cl : List (Str × Addr)} {Fin : Shared → List Value → Led → Prop} {s₁ : Shared}
    {cells : Led} {aS aM aI r : Addr} {vs0 vs ms is : List Value} {ns : List Int} {n n2 n3 : Nat} {rest : Led} {Bd c : Nat} {b : Int} {t u v : Tok}
    (hh : A.handled = none) (F : Fr g L s₁.heap m) (N : News g L s₁.heap (cells ++ (aS, listOf vs.toArray n) :: (aM, listOf ms.toArray n2) :: (aI, listOf is.toArray n3) :: rest)) (hr : IsRange s₁.heap r 0 b 1 t u v) (hb : b = (c : Int)) (hc : c ≤ 3) (hi : IntsAre vs ns) (hl : vs.length ≤ vs0.length)
    (step : ∀ g' i ys vs' ns' n' mn n2' inn n3' ts tl v I oI C oC D m₂ h tk (E' : Value → Shared → Prop), i < c → IntsAre vs' ns' → vs'.length ≤ vs0.length → Tr.AllIn tl ts ys → Tr.okAll ts ms.length (ms ++ mn).length → Made tl mn (Tr.postAll ts) → Inside tl inn → mn.length ≤ i * Bd → inn.length ≤ i * Bd → ys.length = i → Abv (cells.map (·.1) ++ aS :: aM :: aI :: rest.map (·.1)) tl → (∃ t, v = .int (0 + (i : Int)) t) → LCg.NsObj oC m₂ → m₂ x = some v → Fr g L h m → News g L h ((I, oI) :: (C, oC) :: (D, LCg.lst ys) :: (cells ++ (aS, listOf vs'.toArray n') :: (aM, listOf (ms ++ mn).toArray n2') :: (aI, listOf (is ++ inn).toArray n3') :: (tl ++ rest))) → LCg.Off3 I C D (cells ++ (aS, listOf vs'.toArray n') :: (aM, listOf (ms ++ mn).toArray n2') :: (aI, listOf (is ++ inn).toArray n3') :: (tl ++ rest)) → ((@Ne Nat I C) ∧ (@Ne Nat I D) ∧ (@Ne Nat C D)) →
      wpAny (model prog w) A (eval elt (compEnvC scope cl C env)) (LCg.CompEnd g L m { ({ s₁ with heap := g' } : Shared) with heap := h, toks := tk } I oI C oC D (LCg.lst ys) (fun _ => True) (fun y news' => KidsJ cells aS aM aI vs0 ms is rest Bd (i + 1) (ys ++ [y]) news')) E' { ({ s₁ with heap := g' } : Shared) with heap := h, toks := tk })
    (fin : ∀ g' ys vs' ns' n' mn n2' inn n3' ts tl, IntsAre vs' ns' → vs'.length ≤ vs0.length → Tr.AllIn tl ts ys → Tr.okAll ts ms.length (ms ++ mn).length → Made tl mn (Tr.postAll ts) → Inside tl inn → mn.length ≤ c * Bd → inn.length ≤ c * Bd → ys.length = c → Abv (cells.map (·.1) ++ aS :: aM :: aI :: rest.map (·.1)) tl → Fin { s₁ with heap := g' } ys (cells ++ (aS, listOf vs'.toArray n') :: (aM, listOf (ms ++ mn).toArray n2') :: (aI, listOf (is ++ inn).toArray n3') :: (tl ++ rest))) :
    LCg.CompSrc prog w A g L m env elt x scope cl Fin (.ref r) s₁ := by
  subst hb
  have hc' : c = 0 ∨ c = 1 ∨ c = 2 ∨ c = 3 := by omega
  refine LCg.CompSrc.range (n := c) hh F N hr (by rcases hc' with rfl | rfl | rfl | rfl <;> decide) (by rcases hc' with rfl | rfl | rfl | rfl <;> decide) (by rw [sizeLine_eq]; omega) fun g' => ?_
  refine compRest_inv (KidsJ cells aS aM aI vs0 ms is rest Bd) (n := c) (fun i ys news v I oI C oC D m₂ h tk E' hi J hP hC hx F => J.elim (P := fun news => News g L h ((I, oI) :: (C, oC) :: (D, LCg.lst ys) :: news) → LCg.Off3 I C D news → ((@Ne Nat I C) ∧ (@Ne Nat I D) ∧ (@Ne Nat C D)) →
      wpAny (model prog w) A (eval elt (compEnvC scope cl C env)) (LCg.CompEnd g L m { ({ s₁ with heap := g' } : Shared) with heap := h, toks := tk } I oI C oC D (LCg.lst ys) (fun _ => True) (fun y news' => KidsJ cells aS aM aI vs0 ms is rest Bd (i + 1) (ys ++ [y]) news')) E' { ({ s₁ with heap := g' } : Shared) with heap := h, toks := tk })
      fun vs' ns' n' mn n2' inn n3' ts tl j0 j1 j2 j3 j4 j5 j6 j7 j8 j9 => step g' i ys vs' ns' n' mn n2' inn n3' ts tl v I oI C oC D m₂ h tk E' hi j0 j1 j2 j3 j4 j5 j6 j7 j8 j9 hP hC hx F)
    (fun ys news J => J.elim (fin g' ys)) c 0 [] _ (by omega) ?_
  exact ⟨vs, ns, n, [], n2, [], n3, [], [], by simp, hi, hl, by rw [Tr.AllIn], by rw [Tr.okAll, List.append_nil], by rw [Tr.postAll]; exact .nil, .nil, Nat.zero_le _, Nat.zero_le _, rfl, .nil⟩
theorem off3_1 {I C D a : Addr} {o : Obj} {l : Led} {G : Prop} (h : LCg.Off3 I C D ((a, o) :: l)) (k : (@Ne Nat a I) → (@Ne Nat a C) → (@Ne Nat a D) → LCg.Off3 I C D l → G) : G := k h.1.1 h.1.2.1 h.1.2.2 h.2
theorem off3_3 {I C D a b c : Addr} {o o1 o2 : Obj} {l : Led} {G : Prop} (h : LCg.Off3 I C D ((a, o) :: (b, o1) :: (c, o2) :: l))
    (k : (@Ne Nat a I) → (@Ne Nat a C) → (@Ne Nat a D) → (@Ne Nat b I) → (@Ne Nat b C) → (@Ne Nat b D) → (@Ne Nat c I) → (@Ne Nat c C) → (@Ne Nat c D) → LCg.Off3 I C D l → G) : G :=
  k h.1.1 h.1.2.1 h.1.2.2 h.2.1.1 h.2.1.2.1 h.2.1.2.2 h.2.2.1.1 h.2.2.1.2.1 h.2.2.1.2.2 h.2.2.2
/-- a list of addresses off D, taken apart four at once -/
theorem fm_4 {D a b c e : Nat} {l : List Nat} {G : Prop} (h : ∀ x ∈ a :: b :: c :: e :: l, @Ne Nat x D) (k : (@Ne Nat a D) → (@Ne Nat b D) → (@Ne Nat c D) → (@Ne Nat e D) → (∀ x ∈ l, @Ne Nat x D) → G) : G :=
  k (h _ (.head _)) (h _ (.tail _ (.head _))) (h _ (.tail _ (.tail _ (.head _)))) (h _ (.tail _ (.tail _ (.tail _ (.head _))))) fun x hx => h x (.tail _ (.tail _ (.tail _ (.tail _ hx))))
theorem off1_mem {D : Addr} : ∀ {l : Led}, LCg.Off1 D l → ∀ p ∈ l, p.1 ≠ D
  | [], _, _, h => nomatch h
  | _ :: _, x, p, h => by
    rcases List.mem_cons.mp h with rfl | h
    · exact x.1
    · exact off1_mem x.2 p h
theorem ne_tl {as : List Addr} {tl rest : Led} {a : Addr} (h : Abv as tl) (ha : a ∈ as) (hr : ∀ p ∈ rest, p.1 ≠ a) : ∀ p ∈ tl ++ rest, p.1 ≠ a :=
  fun p hp => (List.mem_append.mp hp).elim (h.ne ha p) (hr p)
theorem ne_lt {L a : Nat} {rest : Led} (h : AllLt L rest) (ha : L ≤ a) : ∀ p ∈ rest, p.1 ≠ a := fun p hp => Nat.ne_of_lt (Nat.lt_of_lt_of_le (tb_ltOf h p hp) ha)
theorem my_bf {prog : Program} {w : World} {A : Around} {E : Value → Shared → Prop} {s : Shared} {h₀ : Heap} {L : Addr} {news : Led} {value slice : PySem.Expr} {l : Addr} {n : Nat} {k : Int} {u : Tok} {t0 t1 : Tok} {Q : Value → Shared → Prop}
    (N : News h₀ L s.heap ((l, listOf #[.str (Str.ofString "block") t0, .str (Str.ofString "fork") t1] n) :: news)) (h0 : 0 ≤ k) (h1 : k < 2) (h : ∀ t, Q (.str (kw (5 + k.toNat)) t) s)
    (hs : subscripted slice false (.ref l) (.int k u) = operate [.ref l, .int k u] (getItem (.ref l) (.int k u)) := by with_unfolding_all rfl) :
    wpAny (model prog w) A (subscriptTail value slice (.ref l) (.int k u)) Q E s := by
  have hk : k = 0 ∨ k = 1 := by omega
  refine my_item (v := .str (kw (5 + k.toNat)) (if k = 0 then t0 else t1)) N (.head _) h0 (by omega) ?_ (h _) hs
  rcases hk with rfl | rfl <;> rfl
theorem my_w5 {prog : Program} {w : World} {A : Around} {E : Value → Shared → Prop} {s : Shared} {h₀ : Heap} {L : Addr} {news : Led} {value slice : PySem.Expr} {l : Addr} {n : Nat} {k : Int} {u : Tok} {t0 t1 t2 t3 t4 : Tok} {Q : Value → Shared → Prop}
    (N : News h₀ L s.heap ((l, listOf #[.str (Str.ofString "while") t0, .str (Str.ofString "repeat") t1, .str (Str.ofString "delay") t2, .str (Str.ofString "await") t3, .str (Str.ofString "wait") t4] n) :: news)) (h0 : 0 ≤ k) (h1 : k < 5) (h : ∀ t, Q (.str (kw (11 + k.toNat)) t) s)
    (hs : subscripted slice false (.ref l) (.int k u) = operate [.ref l, .int k u] (getItem (.ref l) (.int k u)) := by with_unfolding_all rfl) :
    wpAny (model prog w) A (subscriptTail value slice (.ref l) (.int k u)) Q E s := by
  have hk : k = 0 ∨ k = 1 ∨ k = 2 ∨ k = 3 ∨ k = 4 := by omega
  refine my_item (v := .str (kw (11 + k.toNat)) (if k = 0 then t0 else if k = 1 then t1 else if k = 2 then t2 else if k = 3 then t3 else t4)) N (.head _) h0 (by omega) ?_ (h _) hs
  rcases hk with rfl | rfl | rfl | rfl | rfl <;> rfl
theorem my_isList {h₀ h : Heap} {L l : Addr} {news : Led} {its : Array Value} {n : Nat} (N : News h₀ L h news) (hm : (l, listOf its n) ∈ news) : h.IsList l its := ⟨_, (N _ hm).1, rfl, n, rfl⟩
end Mine
end

section
open PySem PySem.W PyProof.Rows PySem.Calls PySem.Spec
set_option maxRecDepth 100000
namespace Mine

theorem compRestT_inv {prog : Program} {w : World} {A : Around} {h₀ : Heap} {L : Addr} {m : Str → Option Value} {env : Env} {ct elt : PySem.Expr} {x : Str} {scope : Scope} {cl : List (Str × Addr)} {s : Shared} {S : Led → Prop} {P : Nat → Value → Prop} {Fin : List Value → Led → Prop}
    (J : Nat → List Value → Led → Prop) {n : Nat}
    (step : ∀ i ys news v I oI C oC D m₂ h tk (E' : Value → Shared → Prop), i < n → J i ys news → P i v → LCg.NsObj oC m₂ → m₂ x = some v → Fr h₀ L h m → News h₀ L h ((I, oI) :: (C, oC) :: (D, LCg.lst ys) :: news) → LCg.Off3 I C D news → ((@Ne Nat I C) ∧ (@Ne Nat I D) ∧ (@Ne Nat C D)) →
      wpAny (model prog w) A (isTrue ct (compEnvC scope cl C env) (eval ct (compEnvC scope cl C env))) (fun ok s' => if ok = true then
        wpAny (model prog w) A (eval elt (compEnvC scope cl C env)) (LCg.CompEnd h₀ L m { s with heap := h, toks := tk } I oI C oC D (LCg.lst ys) S (fun y news' => J (i + 1) (ys ++ [y]) news')) E' s'
        else LCg.CompEnd h₀ L m { s with heap := h, toks := tk } I oI C oC D (LCg.lst ys) S (fun _ news' => J (i + 1) ys news') Value.none s') E' { s with heap := h, toks := tk })
    (fin : ∀ ys news, J n ys news → Fin ys news) : ∀ k i ys news, i + k = n → J i ys news → LCt.CompRestT prog w A h₀ L m env ct elt x scope cl s S P Fin k i ys news := by
  intro k
  induction k with
  | zero =>
    intro i ys news e j
    obtain rfl : i = n := by omega
    exact LCt.CompRestT.zero (fin ys news j)
  | succ k ih =>
    intro i ys news e j
    refine LCt.CompRestT.succ fun v I oI C oC D m₂ h tk E' hP hC hx F N off ne => ?_
    refine wpAny_mono (step i ys news v I oI C oC D m₂ h tk E' (by omega) j hP hC hx F N off ne) (fun ok s' z => ?_) fun _ _ e => e
    cases ok with
    | false =>
      rw [if_neg (by decide)] at z ⊢
      exact compEnd_mono z fun news' r => ih (i + 1) ys news' (by omega) r
    | true =>
      rw [if_pos rfl] at z ⊢
      refine wpAny_mono z (fun y s' z => ?_) fun _ _ e => e
      exact compEnd_mono z fun news' r => ih (i + 1) (ys ++ [y]) news' (by omega) r

/-- [x for x in .. if x is not None]: the turns -/
theorem filt_rest {prog : Program} {w : World} {A : Around} {h₀ : Heap} {L : Addr} {m : Str → Option Value} {env : Env} {x : Str} {p1 p2 p3 p4 : Pos} {kk : Nat} {scope : Scope} {cl : List (Str × Addr)} {s : Shared} {S : Led → Prop} {P : Nat → Value → Prop} {Fin : List Value → Led → Prop}
    {its : List Value} {news : Led} {n : Nat} (hn : n = its.length) (hP : ∀ i v, P i v → its[i]? = some v) (hS : S news) (hk : ∀ C, (compEnvC scope cl C env).scope.kind = .function) (hl : ∀ C, (compEnvC scope cl C env).kindOf x = some .local) (hd : (x == ("__debug__" : Str)) = false)
    (fin : Fin (its.filter isSome) news) :
    LCt.CompRestT prog w A h₀ L m env (.Compare (.Name x p1) [.IsNot] [.Constant .none kk p2] p3) (.Name x p4) x scope cl s S P Fin n 0 [] news := by
  refine compRestT_inv (fun i ys nw => ys = (its.take i).filter isSome ∧ nw = news) (n := n) ?_ ?_ n 0 [] news (by omega) ⟨rfl, rfl⟩
  · rintro i ys nw v I oI C oC D m₂ h tk E' hi ⟨rfl, rfl⟩ hp hC hx F N off ne
    have hv := hP i v hp
    have ht : (its.take (i + 1)).filter isSome = (its.take i).filter isSome ++ (if isSome v then [v] else []) := by
      rw [List.take_add_one, hv, List.filter_append]
      cases e : isSome v <;> simp [e]
    have hns := hC.ns (N (C, oC) (.tail _ (.head _))).1
    refine wpAny_isTrue_Compare1 (ldVarK hns hx (Constant_none (isnot_none_gen (wpAny_truthy_bool ?_))) (hk C) (hl C) hd) rfl
    show if isSome v = true then _ else _
    cases e : isSome v with
    | true =>
      rw [if_pos rfl]
      refine ldVarK hns hx ?_ (hk C) (hl C) hd
      exact ⟨h, tk, nw, rfl, F, N, off, hS, by rw [ht, e]; rfl, rfl⟩
    | false =>
      rw [if_neg (by decide)]
      exact ⟨h, tk, nw, rfl, F, N, off, hS, by rw [ht, e]; simp, rfl⟩
  · rintro ys nw ⟨rfl, rfl⟩
    rw [hn, List.take_length]; exact fin

theorem allIn_vals {tl : Led} : ∀ {ts : List Tr} {ys : List Value}, Tr.AllIn tl ts ys → ∀ u ∈ ys, u = .none ∨ ∃ b, u = .ref b
  | [], ys, h => by rw [Tr.AllIn] at h; subst h; exact fun _ h => nomatch h
  | t :: r, ys, h => by
    rw [Tr.AllIn] at h
    obtain ⟨v, vs, rfl, h1, h2⟩ := h
    intro u hu
    rcases List.mem_cons.mp hu with rfl | hu
    · cases t with
      | no => rw [Tr.In] at h1; exact .inl h1
      | mk k i kids => rw [Tr.In] at h1; obtain ⟨a, vs', e, _⟩ := h1; exact .inr ⟨a, e⟩
    · exact allIn_vals h2 u hu

/-- the same, from a list of the ledger -/
theorem filt_src {prog : Program} {w : World} {A : Around} {h₀ : Heap} {L : Addr} {m : Str → Option Value} {env : Env} {x : Str} {p1 p2 p3 p4 : Pos} {kk : Nat} {scope : Scope} {cl : List (Str × Addr)} {s₁ : Shared} {Fin : Shared → List Value → Led → Prop}
    {its : List Value} {ax : Addr} {k : Nat} {news : Led} (hh : A.handled = none) (F : Fr h₀ L s₁.heap m) (N : News h₀ L s₁.heap news) (hm : (ax, listOf its.toArray k) ∈ news) (hsz : its.length ≤ 1000)
    (hk : ∀ C, (compEnvC scope cl C env).scope.kind = .function) (hl : ∀ C, (compEnvC scope cl C env).kindOf x = some .local) (hd : (x == ("__debug__" : Str)) = false)
    (fin : ∀ g, Fin { s₁ with heap := g } (its.filter isSome) news) :
    LCt.CompSrcT prog w A h₀ L m env (.Compare (.Name x p1) [.IsNot] [.Constant .none kk p2] p3) (.Name x p4) x scope cl Fin (.ref ax) s₁ :=
  LCt.CompSrcT.ledger hh F N hm (by rw [List.size_toArray, sizeLine_eq]; omega) fun g =>
    filt_rest (by rw [List.size_toArray]) (fun i v h => by simpa using h) (.inr ⟨_, hm, rfl, _, rfl⟩) hk hl hd (fin g)

/-- the end of a statement with parts: fr is what was made for it -/
theorem tree_end {h₀ h : Heap} {L : Addr} {aS aM aI a p l : Addr} {vs vs1 ms mn is inn ys : List Value} {ns1 : List Int} {n n1 n2 n21 n3 n31 nl k B : Nat} {rest tl fr big : Led} {ts : List Tr}
    (q1 : IntsAre vs1 ns1) (q2 : vs1.length ≤ vs.length) (q3 : Tr.AllIn tl ts ys) (q4 : Tr.okAll ts ms.length (ms ++ mn).length) (q5 : Made tl mn (Tr.postAll ts)) (q6 : Inside tl inn) (q7 : mn.length + 1 ≤ B) (q8 : inn.length + 1 ≤ B) (q9 : Abv (aS :: aM :: aI :: rest.map (·.1)) tl)
    (hN : NodeAt (fr ++ tl) a k (ms ++ mn).length ys) (hp : (p, tup [.ref a, .ref l]) ∈ fr) (hl : (l, listOf (ys.filter isSome).toArray nl) ∈ fr) (hA : Abv (aS :: aM :: aI :: rest.map (·.1)) fr)
    (N : News h₀ L h big) (hb : ∀ q ∈ (aS, listOf vs1.toArray n1) :: (aM, listOf ((ms ++ mn).toArray.push (.ref a)) n21) :: (aI, listOf ((is ++ inn).toArray.push (.ref p)) n31) :: (fr ++ (tl ++ rest)), q ∈ big) :
    ∃ nw, News h₀ L h nw ∧ TreeOut aS aM aI vs n ms n2 is n3 rest B (.ref a) nw := by
  refine ⟨(aS, listOf vs1.toArray n1) :: (aM, listOf (ms ++ (mn ++ [Value.ref a])).toArray n21) :: (aI, listOf (is ++ (inn ++ [Value.ref p])).toArray n31) :: ((fr ++ tl) ++ rest), newsSub N ?_,
    vs1, ns1, n1, mn ++ [Value.ref a], n21, inn ++ [Value.ref p], n31, .mk k (ms ++ mn).length ts, fr ++ tl, q1, q2, rfl, ?_, ?_, ?_, ?_, by simpa using q7, by simpa using q8, hA.append q9⟩
  · intro q hq
    refine hb q ?_
    have e1 : (ms ++ (mn ++ [Value.ref a])).toArray = (ms ++ mn).toArray.push (.ref a) := by simp
    have e2 : (is ++ (inn ++ [Value.ref p])).toArray = (is ++ inn).toArray.push (.ref p) := by simp
    rw [e1, e2, List.append_assoc] at hq; exact hq
  · rw [Tr.In]; exact ⟨a, ys, rfl, hN, q3.mono TupSub.append_l⟩
  · rw [Tr.ok]; exact ⟨q4, by simp; omega⟩
  · rw [Tr.post]
    exact (q5.mono TupSub.append_l).append (.cons hN .nil)
  · refine (q6.mono TupSub.append_l).append (.cons (List.mem_append.mpr (.inl hp)) hN (List.mem_append.mpr (.inl hl)) (allIn_vals q3) .nil)

/-- the use of the contract at a call in the frame -/
theorem tree_use {prog : Program} {w : World} {mean : ExcName → Option Value} {mg mb : Str → Option Value} {d : Nat} (IH : TreeGives prog w mean mg mb d) {aS aM aI : Addr} {vs : List Value} {ns : List Int} {n : Nat} {ms : List Value} {n2 : Nat} {is : List Value} {n3 : Nat} {pre rest : Led} {deep : Int} {dtk : Tok}
    {dp u : Nat} {gd : Option (List Code)} {cn : Str} {cs : Scope} {a : Addr} {ccd : Value} {cl : List (Str × Addr)} {outer : List Env} {A₀ : Around} {base h₀ : Heap} {L : Addr} {m : Str → Option Value} {s : Shared} {Q E : Value → Shared → Prop}
    (B : Below A₀ base outer h₀) (F : Fr h₀ L s.heap m) (X : (hd.heap_1_39 w.params).In h₀) (N : News h₀ L s.heap (pre ++ (aS, listOf vs.toArray n) :: (aM, listOf ms.toArray n2) :: (aI, listOf is.toArray n3) :: rest)) (T : Top hd.view_1_40 (looseW hd.view_1_40 [Str.ofString "GateloomError"]) mean mg mb h₀) (hk : cs.kind = .function)
    (hi : IntsAre vs ns) (hSM : @Ne Nat aS aM) (hSI : @Ne Nat aS aI) (hMI : @Ne Nat aM aI) (h1 : ∀ p ∈ pre ++ rest, p.1 ≠ aS) (h2 : ∀ p ∈ pre ++ rest, p.1 ≠ aM) (h3 : ∀ p ∈ pre ++ rest, p.1 ≠ aI) (hlen : vs.length ≤ 200) (hlen2 : ms.length + bnd d ≤ 200) (hlen3 : is.length + bnd d ≤ 200) (hdeep : deep = 4 - (d : Int)) (hd4 : d ≤ 4)
    (hd : dp + (10 * d + 30) < recursionLimit) (hu : u + (100 * d + 500) < cLine)
    (ret : ∀ vs' ns' n' mn n2' inn n3' t tl r h' tk', IntsAre vs' ns' → vs'.length ≤ vs.length → Tr.In tl t r → t.ok ms.length (ms ++ mn).length → Made tl mn t.post → Inside tl inn → mn.length ≤ bnd d → inn.length ≤ bnd d →
      Abv (aS :: aM :: aI :: (pre ++ rest).map (·.1)) tl → Fr h₀ L h' m → News h₀ L h' (pre ++ (aS, listOf vs'.toArray n') :: (aM, listOf (ms ++ mn).toArray n2') :: (aI, listOf (is ++ inn).toArray n3') :: (tl ++ rest)) → Q r { s with heap := h', toks := tk' }) :
    wpAny (model prog w) (ktrTop dp u gd cn cs L a ccd cl outer) (call (.ref 113) [.ref aS, .ref aM, .ref aI, .int deep dtk]) Q E s := by
  refine IH aS aM aI vs ns n ms n2 is n3 (pre ++ rest) deep dtk hi h1 h2 h3 hSM hSI hMI hlen hlen2 hlen3 hdeep hd4 dp u gd cn cs a ccd cl outer A₀ base h₀ L m s Q E B F X ?_ T hk hd hu ?_
  · refine newsSub N fun p hp => ?_
    simp only [List.mem_cons, List.mem_append] at hp ⊢
    rcases hp with h | h | h | h | h <;> simp [h]
  · rintro r news' h' tk' F' N' ⟨vs', ns', n', mn, n2', inn, n3', t, tl, e1, e2, rfl, e4, e5, e6, e7, e8, e9, e10⟩
    refine ret vs' ns' n' mn n2' inn n3' t tl r h' tk' e1 e2 e4 e5 e6 e7 e8 e9 e10 F' (newsSub N' fun p hp => ?_)
    simp only [List.mem_cons, List.mem_append] at hp ⊢
    rcases hp with h | h | h | h | h | h <;> simp [h]
theorem off1_eq {D : Addr} {a b : Led} : LCg.Off1 D (a ++ b) = ∀ p ∈ a ++ b, p.1 ≠ D := by
  have key : ∀ l : Led, (∀ p ∈ l, p.1 ≠ D) → LCg.Off1 D l := by
    intro l
    induction l with
    | nil => intro _; trivial
    | cons q r ih => exact fun h => ⟨h q (.head _), ih fun p hp => h p (.tail _ hp)⟩
  exact propext ⟨off1_mem, key _⟩
end Mine
end

section
open PySem PySem.W PyProof.Rows PySem.Calls PySem.Spec
set_option maxRecDepth 100000
namespace Mine
theorem off_rest2 {D : Nat} {tl rest : Led} (h : ∀ p ∈ tl ++ rest, p.1 ≠ D) : ∀ b ∈ rest.map (·.1), @Ne Nat b D :=
  off_rest fun p hp => h p (List.mem_append.mpr (.inr hp))
theorem off_rest3 {D : Nat} {rl tl rest : Led} (h : ∀ p ∈ rl ++ (tl ++ rest), p.1 ≠ D) : ∀ b ∈ rest.map (·.1), @Ne Nat b D :=
  off_rest fun p hp => h p (List.mem_append.mpr (.inr (List.mem_append.mpr (.inr hp))))

theorem isShown {a : Addr} {t1 t2 t3 : Tok} {l : Led} (h : (a, tup [.str (Str.ofString "set") t1, .int 1 t2, .str (Str.ofString "no statement") t3]) ∈ l) : Shown l (.ref a) := .mk h
theorem nd_blk {a q r : Addr} {sh : Value} {k i : Nat} {x : Int} {vs : List Value} {t1 t2 : Tok} {news : Led} (h : (a, tup [.str (kw k) t1, .int x t2, .none, .ref q, .ref r]) ∈ news) (hx : x = 100 + (i : Int)) (hk : k = 5 ∨ k = 6)
    (hq : (q, tup [sh]) ∈ news) (hr : (r, tup vs) ∈ news) (hs : Shown news sh) (hl : vs.length ≤ 3) : NodeAt news a k i vs := by
  have e : x = ((100 + i : Nat) : Int) := by omega
  subst e
  exact .blk hk h hs hq hr hl
theorem nd_cas {a r : Addr} {sh : Value} {i : Nat} {x : Int} {rows vs : List Value} {t1 t2 t3 : Tok} {news : Led} (h : (a, tup [.str (Str.ofString "case") t1, .int x t2, .str (Str.ofString "case") t3, sh, .ref r]) ∈ news) (hx : x = 100 + (i : Int))
    (hr : (r, tup rows) ∈ news) (hs : Shown news sh) (hl : rows.length ≤ 3) (hv : RowsAt news rows vs) : NodeAt news a 7 i vs := by
  have e : x = ((100 + i : Nat) : Int) := by omega
  subst e
  exact .cas h hs hr hl hv
theorem nd_iff {a : Addr} {sh v1 v2 : Value} {i : Nat} {x : Int} {t1 t2 : Tok} {news : Led} (h : (a, tup [.str (Str.ofString "if") t1, .int x t2, sh, v1, v2]) ∈ news) (hx : x = 100 + (i : Int)) (hs : Shown news sh) : NodeAt news a 8 i [v1, v2] := by
  have e : x = ((100 + i : Nat) : Int) := by omega
  subst e
  exact .iff h hs
theorem nd_rng {a q1 q2 : Addr} {s1 v : Value} {i : Nat} {x : Int} {t1 t2 : Tok} {news : Led} (h : (a, tup [.str (Str.ofString "for") t1, .int x t2, .ref q1, s1, .ref q2, v]) ∈ news) (hx : x = 100 + (i : Int))
    (h1 : (q1, tup [s1, s1]) ∈ news) (h2 : (q2, tup [s1, s1]) ∈ news) (hs : Shown news s1) : NodeAt news a 9 i [v] := by
  have e : x = ((100 + i : Nat) : Int) := by omega
  subst e
  exact .rng h h1 h2 hs hs hs hs hs
theorem nd_fev {a : Addr} {v : Value} {i : Nat} {x : Int} {t1 t2 : Tok} {news : Led} (h : (a, tup [.str (Str.ofString "forever") t1, .int x t2, v]) ∈ news) (hx : x = 100 + (i : Int)) : NodeAt news a 10 i [v] := by
  have e : x = ((100 + i : Nat) : Int) := by omega
  subst e
  exact .fev h
theorem nd_one {a : Addr} {sh v : Value} {k i : Nat} {x : Int} {t1 t2 : Tok} {news : Led} (h : (a, tup [.str (kw k) t1, .int x t2, sh, v]) ∈ news) (hx : x = 100 + (i : Int)) (hk : 10 < k) (hk2 : k < 16) (hs : Shown news sh) : NodeAt news a k i [v] := by
  have e : x = ((100 + i : Nat) : Int) := by omega
  subst e
  exact .one hk hk2 h hs

theorem RowsAt.snoc {news : Led} {rows vs : List Value} {p q : Addr} {sh v : Value} (h : RowsAt news rows vs) (h1 : (p, tup [.ref q, v]) ∈ news) (h2 : (q, tup [sh]) ∈ news) (h3 : Shown news sh) : RowsAt news (rows ++ [.ref p]) (vs ++ [v]) := by
  induction h with
  | nil => exact .cons h1 h2 h3 .nil
  | cons a b c _ ih => exact .cons a b c ih
theorem RowsAt.length {news : Led} {rows vs : List Value} (h : RowsAt news rows vs) : rows.length = vs.length := by
  induction h with
  | nil => rfl
  | cons a b c _ ih => simp [ih]

/-- ahead of turn i of the comprehension that builds the rows of a case -/
noncomputable def RowsJ (cells tail : Led) (sp : Addr × Obj) (its : List Value) (as : List Addr) (i : Nat) (rows : List Value) (news : Led) : Prop :=
  ∃ rl, news = cells ++ (rl ++ tail) ∧ RowsAt (sp :: rl) rows (its.take i) ∧ Abv as rl
theorem RowsJ.step {cells tail : Led} {sp : Addr × Obj} {its rows : List Value} {as : List Addr} {i : Nat} {rl : Led} {p q : Addr} {v : Value}
    (h1 : RowsAt (sp :: rl) rows (its.take i)) (h2 : Abv as rl) (hv : its[i]? = some v) (hs : Shown [sp] (.ref sp.1)) (hA : Abv as [(p, tup [.ref q, v]), (q, tup [.ref sp.1])]) :
    RowsJ cells tail sp its as (i + 1) (rows ++ [.ref p]) (cells ++ (((p, tup [.ref q, v]) :: (q, tup [.ref sp.1]) :: rl) ++ tail)) := by
  refine ⟨_, rfl, ?_, Abv.append hA h2⟩
  have e : its.take (i + 1) = its.take i ++ [v] := by rw [List.take_add_one, hv]; rfl
  rw [e]
  refine RowsAt.snoc (q := q) (sh := .ref sp.1) (h1.mono fun x hx => ?_) (.tail _ (.head _)) (.tail _ (.tail _ (.head _))) (hs.mono fun x hx => ?_)
  · rcases List.mem_cons.mp hx with rfl | hx
    · exact .head _
    · exact .tail _ (.tail _ (.tail _ hx))
  · rw [List.mem_singleton.mp hx]; exact .head _
theorem rows_src {prog : Program} {w : World} {A : Around} {g : Heap} {L : Addr} {m : Str → Option Value} {env : Env} {elt : PySem.Expr} {x : Str} {scope : Scope} {cl : List (Str × Addr)} {Fin : Shared → List Value → Led → Prop} {s₁ : Shared}
    {cells tail : Led} {its : List Value} {ax : Addr} {k : Nat} {sp : Addr × Obj} {as : List Addr}
    (hh : A.handled = none) (F : Fr g L s₁.heap m) (N : News g L s₁.heap (cells ++ tail)) (hm : (ax, listOf its.toArray k) ∈ cells) (_hsp : sp ∈ cells) (hl : its.length ≤ 3)
    (step : ∀ g' i rows news v I oI C oC D m₂ h tk (E' : Value → Shared → Prop), RowsJ cells tail sp its as i rows news → its[i]? = some v → LCg.NsObj oC m₂ → m₂ x = some v → Fr g L h m → News g L h ((I, oI) :: (C, oC) :: (D, LCg.lst rows) :: news) → LCg.Off3 I C D news → ((@Ne Nat I C) ∧ (@Ne Nat I D) ∧ (@Ne Nat C D)) →
      wpAny (model prog w) A (eval elt (compEnvC scope cl C env)) (LCg.CompEnd g L m { ({ s₁ with heap := g' } : Shared) with heap := h, toks := tk } I oI C oC D (LCg.lst rows) (LCg.SrcAt g ax its.toArray) (fun y news' => RowsJ cells tail sp its as (i + 1) (rows ++ [y]) news')) E' { ({ s₁ with heap := g' } : Shared) with heap := h, toks := tk })
    (fin : ∀ g' rows news, RowsJ cells tail sp its as its.length rows news → Fin { s₁ with heap := g' } rows news) :
    LCg.CompSrc prog w A g L m env elt x scope cl Fin (.ref ax) s₁ := by
  refine LCg.CompSrc.ledger hh F N (List.mem_append.mpr (.inl hm)) (by rw [List.size_toArray, sizeLine_eq]; omega) fun g' => ?_
  refine compRest_inv (RowsJ cells tail sp its as) (n := its.length) (fun i rows news v I oI C oC D m₂ h tk E' hi J hP => step g' i rows news v I oI C oC D m₂ h tk E' J (by simpa using hP)) (fin g') _ 0 [] _ (by simp) ?_
  exact ⟨[], by simp, by simpa using RowsAt.nil, .nil⟩
/-- the end of a row's turn -/
theorem rows_end {g h' : Heap} {L : Addr} {m : Str → Option Value} {cells tail rl : Led} {sp : Addr × Obj} {its rows : List Value} {as : List Addr} {i k tk : Nat} {p q ax I C D : Addr} {oI oC : Obj} {v : Value} {s₁ : Shared}
    (F : Fr g L h' m) (N : News g L h' ((p, tup [.ref q, v]) :: (q, tup [.ref sp.1]) :: (I, oI) :: (C, oC) :: (D, LCg.lst rows) :: (cells ++ (rl ++ tail)))) (off : LCg.Off3 I C D (cells ++ (rl ++ tail)))
    (hp : (@Ne Nat p I) ∧ (@Ne Nat p C) ∧ (@Ne Nat p D)) (hq : (@Ne Nat q I) ∧ (@Ne Nat q C) ∧ (@Ne Nat q D)) (hm : (ax, listOf its.toArray k) ∈ cells)
    (h1 : RowsAt (sp :: rl) rows (its.take i)) (h2 : Abv as rl) (hv : its[i]? = some v) (hs : Shown [sp] (.ref sp.1)) (hA : Abv as [(p, tup [.ref q, v]), (q, tup [.ref sp.1])]) :
    LCg.CompEnd g L m s₁ I oI C oC D (LCg.lst rows) (LCg.SrcAt g ax its.toArray) (fun y news' => RowsJ cells tail sp its as (i + 1) (rows ++ [y]) news') (.ref p) { s₁ with heap := h', toks := tk } := by
  have O := LCg.Off3.mem off
  refine LCg.CompEnd.intro F N (cells ++ (((p, tup [.ref q, v]) :: (q, tup [.ref sp.1]) :: rl) ++ tail)) mv_rows (LCg.Off3.of (all_rows O hp hq)) (.inr ⟨_, List.mem_append.mpr (.inl hm), rfl, _, rfl⟩) (RowsJ.step h1 h2 hv hs hA)
theorem rows_take {news : Led} {rows its : List Value} (h : RowsAt news rows (its.take its.length)) : RowsAt news rows its := by rwa [List.take_length] at h
theorem my_itemA {prog : Program} {w : World} {A : Around} {E : Value → Shared → Prop} {s : Shared} {h₀ : Heap} {L : Addr} {news : Led} {value slice : PySem.Expr} {l : Addr} {its : Array Value} {n : Nat} {k : Int} {u : Tok} {v : Value} {Q : Value → Shared → Prop}
    (N : News h₀ L s.heap news) (hm : (l, listOf its n) ∈ news) (h0 : 0 ≤ k) (hhi : k < 2 ^ 63) (hx : its[k.toNat]? = some v) (h : Q v s)
    (hs : subscripted slice false (.ref l) (.int k u) = operate [.ref l, .int k u] (getItem (.ref l) (.int k u)) := by with_unfolding_all rfl) :
    wpAny (model prog w) A (subscriptTail value slice (.ref l) (.int k u)) Q E s :=
  have hl : s.heap.IsList l its := ⟨_, (N _ hm).1, rfl, n, rfl⟩
  tail_any hl.typeIs slot_list_getitem.lookup (wpAny_getItem_list hl h0 hhi hx h) hs
theorem my_w5b {prog : Program} {w : World} {A : Around} {E : Value → Shared → Prop} {s : Shared} {h₀ : Heap} {L : Addr} {news : Led} {value slice : PySem.Expr} {l : Addr} {n : Nat} {x : Int} {u : Tok} {t0 t1 t2 t3 t4 : Tok} {Q : Value → Shared → Prop}
    (N : News h₀ L s.heap ((l, listOf #[.str (Str.ofString "while") t0, .str (Str.ofString "repeat") t1, .str (Str.ofString "delay") t2, .str (Str.ofString "await") t3, .str (Str.ofString "wait") t4] n) :: news)) (h : ∀ (j : Nat) t, j < 5 → Q (.str (kw (11 + j)) t) s)
    (hs : subscripted slice false (.ref l) (.int (x.fmod 5) u) = operate [.ref l, .int (x.fmod 5) u] (getItem (.ref l) (.int (x.fmod 5) u)) := by with_unfolding_all rfl) :
    wpAny (model prog w) A (subscriptTail value slice (.ref l) (.int (x.fmod 5) u)) Q E s :=
  my_w5 N (Int.fmod_nonneg_of_pos _ (by decide)) (Int.fmod_lt_of_pos _ (by decide)) (fun t => h _ t (by have := Int.fmod_lt_of_pos x (b := 5) (by decide); have := Int.fmod_nonneg_of_pos x (b := 5) (by decide); omega)) hs
end Mine
end

section
open PySem PySem.W PyProof.Rows PySem.Calls PySem.Spec
set_option maxRecDepth 100000
namespace Mine
/-- what a cut statement gives: it ends, and P holds -/
noncomputable def CutQ (P : Shared → Prop) (f : Flow) (s' : Shared) : Prop := f = .next ∧ P s'
/-- a mark in the context: the cut is made -/
noncomputable def CutOn : Prop := True
section
variable {prog : Program} {w : World} {A : Around} {E : Value → Shared → Prop} {s : Shared} {X : Sem Flow} {Q : Flow → Shared → Prop}
theorem cut_stmt (P : Shared → Prop) (h : wpAny (model prog w) A X (CutQ P) E s) (k : ∀ s', P s' → Q .next s') : wpAny (model prog w) A X Q E s :=
  wpAny_mono h (fun f s' ⟨e, p⟩ => by subst e; exact k s' p) fun _ _ e => e
/-- the state behind the kids: their list at D0 -/
noncomputable def KSt (P : Nat → Prop) (s₀ : Shared) (g : Heap) (L aS aM aI : Addr) (vs ms is : List Value) (rest cells : Led) (Bd : Nat) (m : Str → Option Value) (s' : Shared) : Prop :=
  ∃ D0 e0 h' tk ys vs' ns' n' mn n2' inn n3' ts tl, s' = { s₀ with heap := h', toks := tk } ∧ Fr g L h' (fun y => if y = Str.ofString "kids" then some (.ref D0) else m y) ∧
    News g L h' ((D0, listOf ys.toArray e0) :: (cells ++ (aS, listOf vs'.toArray n') :: (aM, listOf (ms ++ mn).toArray n2') :: (aI, listOf (is ++ inn).toArray n3') :: (tl ++ rest))) ∧
    IntsAre vs' ns' ∧ vs'.length ≤ vs.length ∧ Tr.AllIn tl ts ys ∧ Tr.okAll ts ms.length (ms ++ mn).length ∧ Made tl mn (Tr.postAll ts) ∧ Inside tl inn ∧ mn.length ≤ ys.length * Bd ∧ inn.length ≤ ys.length * Bd ∧ P ys.length ∧
    Abv (cells.map (·.1) ++ aS :: aM :: aI :: rest.map (·.1)) tl ∧ (∀ a ∈ cells.map (·.1) ++ [aS, aM, aI], @Ne Nat a D0) ∧ (∀ p ∈ tl ++ rest, p.1 ≠ D0)
theorem KSt.elim {P : Nat → Prop} {s₀ : Shared} {g : Heap} {L aS aM aI : Addr} {vs ms is : List Value} {rest cells : Led} {Bd : Nat} {m : Str → Option Value} {s' : Shared} {G : Shared → Prop} (z : KSt P s₀ g L aS aM aI vs ms is rest cells Bd m s')
    (k : ∀ D0 e0 h' tk ys vs' ns' n' mn n2' inn n3' ts tl, Fr g L h' (fun y => if y = Str.ofString "kids" then some (.ref D0) else m y) →
      News g L h' ((D0, listOf ys.toArray e0) :: (cells ++ (aS, listOf vs'.toArray n') :: (aM, listOf (ms ++ mn).toArray n2') :: (aI, listOf (is ++ inn).toArray n3') :: (tl ++ rest))) →
      IntsAre vs' ns' → vs'.length ≤ vs.length → Tr.AllIn tl ts ys → Tr.okAll ts ms.length (ms ++ mn).length → Made tl mn (Tr.postAll ts) → Inside tl inn → mn.length ≤ ys.length * Bd → inn.length ≤ ys.length * Bd → P ys.length →
      Abv (cells.map (·.1) ++ aS :: aM :: aI :: rest.map (·.1)) tl → (∀ a ∈ cells.map (·.1) ++ [aS, aM, aI], @Ne Nat a D0) → (∀ p ∈ tl ++ rest, p.1 ≠ D0) → G { s₀ with heap := h', toks := tk }) : G s' := by
  obtain ⟨D0, e0, h', tk, ys, vs', ns', n', mn, n2', inn, n3', ts, tl, rfl, a1, a2, a3, a4, a5, a6, a7, a8, a9, b1, b2, b3, b4, b5⟩ := z
  exact k D0 e0 h' tk ys vs' ns' n' mn n2' inn n3' ts tl a1 a2 a3 a4 a5 a6 a7 a8 a9 b1 b2 b3 b4 b5
theorem cut_kids {g hx : Heap} {L : Addr} {m : Str → Option Value} (F : Fr g L hx m) (P : Nat → Prop) (s₀ : Shared) (aS aM aI : Addr) (vs ms is : List Value) (rest cells : Led) (Bd : Nat)
    (h : wpAny (model prog w) A X (CutQ (KSt P s₀ g L aS aM aI vs ms is rest cells Bd m)) E s) 
    (k : ∀ D0 e0 h' tk ys vs' ns' n' mn n2' inn n3' ts tl, Fr g L h' (fun y => if y = Str.ofString "kids" then some (.ref D0) else m y) →
      News g L h' ((D0, listOf ys.toArray e0) :: (cells ++ (aS, listOf vs'.toArray n') :: (aM, listOf (ms ++ mn).toArray n2') :: (aI, listOf (is ++ inn).toArray n3') :: (tl ++ rest))) →
      IntsAre vs' ns' → vs'.length ≤ vs.length → Tr.AllIn tl ts ys → Tr.okAll ts ms.length (ms ++ mn).length → Made tl mn (Tr.postAll ts) → Inside tl inn → mn.length ≤ ys.length * Bd → inn.length ≤ ys.length * Bd → P ys.length →
      Abv (cells.map (·.1) ++ aS :: aM :: aI :: rest.map (·.1)) tl → (∀ a ∈ cells.map (·.1) ++ [aS, aM, aI], @Ne Nat a D0) → (∀ p ∈ tl ++ rest, p.1 ≠ D0) → Q .next { s₀ with heap := h', toks := tk }) : wpAny (model prog w) A X Q E s := cut_stmt _ h fun s' z => z.elim (G := fun s' => Q .next s') k
theorem kst_fin {P : Nat → Prop} {s₀ : Shared} {g h' : Heap} {L aS aM aI D0 : Addr} {m : Str → Option Value} {pre cells tl rest : Led} {vs ms is vs' mn inn ys : List Value} {ns' : List Int} {n' n2' n3' e0 Bd tk : Nat} {ts : List Tr}
    (F : Fr g L h' (fun y => if y = Str.ofString "kids" then some (.ref D0) else m y)) (N : News g L h' ((D0, listOf ys.toArray e0) :: ((pre ++ cells) ++ (aS, listOf vs'.toArray n') :: (aM, listOf (ms ++ mn).toArray n2') :: (aI, listOf (is ++ inn).toArray n3') :: (tl ++ rest))))
    (j0 : IntsAre vs' ns') (j1 : vs'.length ≤ vs.length) (j2 : Tr.AllIn tl ts ys) (j3 : Tr.okAll ts ms.length (ms ++ mn).length) (j4 : Made tl mn (Tr.postAll ts)) (j5 : Inside tl inn) (j6 : mn.length ≤ ys.length * Bd) (j7 : inn.length ≤ ys.length * Bd) (hP : P ys.length)
    (j9 : Abv ((pre ++ cells).map (·.1) ++ aS :: aM :: aI :: rest.map (·.1)) tl) (h1 : ∀ p ∈ (pre ++ cells) ++ (aS, listOf vs'.toArray n') :: (aM, listOf (ms ++ mn).toArray n2') :: (aI, listOf (is ++ inn).toArray n3') :: (tl ++ rest), p.1 ≠ D0) :
    CutQ (KSt P s₀ g L aS aM aI vs ms is rest cells Bd m) .next { s₀ with heap := h', toks := tk } := by
  refine ⟨rfl, D0, e0, h', tk, ys, vs', ns', n', mn, n2', inn, n3', ts, tl, rfl, F, newsSub N ?_, j0, j1, j2, j3, j4, j5, j6, j7, hP, j9.sub ?_, ?_, fun p hp => h1 p ?_⟩
  · intro p hp
    rcases List.mem_cons.mp hp with h | h
    · rw [h]; exact .head _
    · rw [List.append_assoc]; exact .tail _ (List.mem_append.mpr (.inr h))
  · intro b hb
    rw [List.map_append, List.append_assoc]
    exact List.mem_append.mpr (.inr hb)
  · intro a ha
    rcases List.mem_append.mp ha with h | h
    · obtain ⟨p, hp, rfl⟩ := List.mem_map.mp h
      exact h1 p (List.mem_append.mpr (.inl (List.mem_append.mpr (.inr hp))))
    · simp only [List.mem_cons, List.not_mem_nil, or_false] at h
      rcases h with rfl | rfl | rfl
      · exact h1 _ (List.mem_append.mpr (.inr (.head _)))
      · exact h1 _ (List.mem_append.mpr (.inr (.tail _ (.head _))))
      · exact h1 _ (List.mem_append.mpr (.inr (.tail _ (.tail _ (.head _)))))
  · exact List.mem_append.mpr (.inr (.tail _ (.tail _ (.tail _ hp))))
theorem kst_ne {cells tl rest : Led} {aS aM aI D0 : Addr} {oS oM oI : Obj} (h1 : ∀ a ∈ cells.map (·.1) ++ [aS, aM, aI], @Ne Nat a D0) (h2 : ∀ p ∈ tl ++ rest, p.1 ≠ D0) : ∀ p ∈ cells ++ (aS, oS) :: (aM, oM) :: (aI, oI) :: (tl ++ rest), p.1 ≠ D0 := by
  intro p hp
  rcases List.mem_append.mp hp with h | h
  · exact h1 _ (List.mem_append.mpr (.inl (List.mem_map.mpr ⟨p, h, rfl⟩)))
  · rcases List.mem_cons.mp h with rfl | h
    · exact h1 _ (List.mem_append.mpr (.inr (.head _)))
    · rcases List.mem_cons.mp h with rfl | h
      · exact h1 _ (List.mem_append.mpr (.inr (.tail _ (.head _))))
      · rcases List.mem_cons.mp h with rfl | h
        · exact h1 _ (List.mem_append.mpr (.inr (.tail _ (.tail _ (.head _)))))
        · exact h2 p h
/-- the state behind the choice of the node -/
noncomputable def NSt (s₀ : Shared) (g : Heap) (L : Addr) (m : Str → Option Value) (base tl rest : Led) (as : List Addr) (i : Nat) (ys : List Value) (s' : Shared) : Prop :=
  ∃ D kd h' tk tl2, s' = { s₀ with heap := h', toks := tk } ∧ Fr g L h' (fun y => if y = Str.ofString "node" then some (.ref D) else m y) ∧ News g L h' (base ++ (tl2 ++ rest)) ∧ NodeAt tl2 D kd i ys ∧ (∀ p ∈ tl, p ∈ tl2) ∧ Abv as tl2
theorem cut_node {g : Heap} {L : Addr} {m : Str → Option Value} (F : Fr g L s.heap m) (s₀ : Shared) (base tl rest : Led) (as : List Addr) (i : Nat) (ys : List Value)
    (h : wpAny (model prog w) A X (CutQ (NSt s₀ g L m base tl rest as i ys)) E s) 
    (k : ∀ D kd h' tk tl2, Fr g L h' (fun y => if y = Str.ofString "node" then some (.ref D) else m y) → News g L h' (base ++ (tl2 ++ rest)) → NodeAt tl2 D kd i ys → (∀ p ∈ tl, p ∈ tl2) → Abv as tl2 → Q .next { s₀ with heap := h', toks := tk }) : wpAny (model prog w) A X Q E s := cut_stmt _ h fun s' z => by
  obtain ⟨D, kd, h', tk, tl2, rfl, a1, a2, a3, a4, a5⟩ := z
  exact k D kd h' tk tl2 a1 a2 a3 a4 a5
/-- the end of a branch that chooses the node -/
theorem node_cut {s₀ : Shared} {g h' : Heap} {L D : Addr} {m : Str → Option Value} {fr base tl rest : Led} {as : List Addr} {i kd tk : Nat} {ys : List Value}
    (F : Fr g L h' (fun y => if y = Str.ofString "node" then some (.ref D) else m y)) (N : News g L h' (fr ++ (base ++ (tl ++ rest)))) (hN : NodeAt fr D kd i ys) (hA : Abv as fr) (hB : Abv as tl) :
    CutQ (NSt s₀ g L m base tl rest as i ys) .next { s₀ with heap := h', toks := tk } :=
  ⟨rfl, D, kd, h', tk, fr ++ tl, rfl, F, newsSub N fun p hp => by
    rcases List.mem_append.mp hp with h | h
    · exact List.mem_append.mpr (.inr (List.mem_append.mpr (.inl h)))
    · rw [List.append_assoc] at h
      rcases List.mem_append.mp h with h | h
      · exact List.mem_append.mpr (.inl h)
      · exact List.mem_append.mpr (.inr (List.mem_append.mpr (.inr h))), hN.mono fun p hp => List.mem_append.mpr (.inl hp), fun p hp => List.mem_append.mpr (.inr hp), hA.append hB⟩
theorem node_cut3 {s₀ : Shared} {g h' : Heap} {L D : Addr} {m : Str → Option Value} {fr base rl tl rest : Led} {as : List Addr} {i kd tk : Nat} {ys : List Value}
    (F : Fr g L h' (fun y => if y = Str.ofString "node" then some (.ref D) else m y)) (N : News g L h' (fr ++ (base ++ (rl ++ (tl ++ rest))))) (hN : NodeAt (fr ++ rl) D kd i ys) (hA : Abv as fr) (hR : Abv as rl) (hB : Abv as tl) :
    CutQ (NSt s₀ g L m base tl rest as i ys) .next { s₀ with heap := h', toks := tk } :=
  ⟨rfl, D, kd, h', tk, fr ++ (rl ++ tl), rfl, F, newsSub N fun p hp => by
    simp only [List.mem_append] at hp ⊢
    rcases hp with h | ((h | h | h) | h)
    · exact .inr (.inl h)
    · exact .inl h
    · exact .inr (.inr (.inl h))
    · exact .inr (.inr (.inr (.inl h)))
    · exact .inr (.inr (.inr (.inr h))), hN.mono fun p hp => by
      rcases List.mem_append.mp hp with h | h
      · exact List.mem_append.mpr (.inl h)
      · exact List.mem_append.mpr (.inr (List.mem_append.mpr (.inl h))), fun p hp => List.mem_append.mpr (.inr (List.mem_append.mpr (.inr hp))), hA.append (hR.append hB)⟩
end
theorem len_two {α : Type} : ∀ {l : List α}, l.length = 2 → ∃ a b, l = [a, b]
  | [a, b], _ => ⟨a, b, rfl⟩
theorem abv_kst {p0 : Addr × Obj} {cells tl rest tl2 : Led} {aS aM aI : Addr} (h : Abv (aS :: aM :: aI :: List.map (fun x => x.1) ((p0 :: cells) ++ (tl ++ rest))) tl2) : Abv (List.map (fun x : Addr × Obj => x.1) ([] ++ cells) ++ aS :: aM :: aI :: List.map (fun x => x.1) rest) tl2 := h.sub fun b hb => by
  rw [List.nil_append] at hb
  rcases List.mem_append.mp hb with h | h
  · obtain ⟨p, hp, rfl⟩ := List.mem_map.mp h
    exact .tail _ (.tail _ (.tail _ (List.mem_map.mpr ⟨p, List.mem_append.mpr (.inl (.tail _ hp)), rfl⟩)))
  · rcases List.mem_cons.mp h with rfl | h
    · exact .head _
    · rcases List.mem_cons.mp h with rfl | h
      · exact .tail _ (.head _)
      · rcases List.mem_cons.mp h with rfl | h
        · exact .tail _ (.tail _ (.head _))
        · obtain ⟨p, hp, rfl⟩ := List.mem_map.mp h
          exact .tail _ (.tail _ (.tail _ (List.mem_map.mpr ⟨p, List.mem_append.mpr (.inr (List.mem_append.mpr (.inr hp))), rfl⟩)))
theorem tree_end4 {h₀ h : Heap} {L : Addr} {aS aM aI a p l : Addr} {vs vs1 ms mn is inn ys : List Value} {ns1 : List Int} {n n1 n2 n21 n3 n31 nl k B : Nat} {rest tl fr mid : Led} {ts : List Tr}
    (N : News h₀ L h (fr ++ (mid ++ (aS, listOf vs1.toArray n1) :: (aM, listOf ((ms ++ mn).toArray.push (.ref a)) n21) :: (aI, listOf ((is ++ inn).toArray.push (.ref p)) n31) :: (tl ++ rest))))
    (q1 : IntsAre vs1 ns1) (q2 : vs1.length ≤ vs.length) (q3 : Tr.AllIn tl ts ys) (q4 : Tr.okAll ts ms.length (ms ++ mn).length) (q5 : Made tl mn (Tr.postAll ts)) (q6 : Inside tl inn) (q7 : mn.length + 1 ≤ B) (q8 : inn.length + 1 ≤ B) (q9 : Abv (aS :: aM :: aI :: rest.map (·.1)) tl)
    (hN : NodeAt tl a k (ms ++ mn).length ys) (hp : (p, tup [.ref a, .ref l]) ∈ fr) (hl : (l, listOf (ys.filter isSome).toArray nl) ∈ fr) (hA : Abv (aS :: aM :: aI :: rest.map (·.1)) fr) :
    ∃ nw, News h₀ L h nw ∧ TreeOut aS aM aI vs n ms n2 is n3 rest B (.ref a) nw :=
  tree_end (n1 := n1) (n21 := n21) (n31 := n31) q1 q2 q3 q4 q5 q6 q7 q8 q9 (hN.mono TupSub.append_l) hp hl hA N fun q hq => by
    simp only [List.mem_cons, List.mem_append] at hq ⊢
    rcases hq with h | h | h | h | h | h <;> simp only [h, true_or, or_true]
end Mine
end

section
open PySem PySem.W PyProof.Rows PySem.Calls PySem.Spec
set_option maxRecDepth 100000
namespace Mine

set_option maxHeartbeats 4000000 in
theorem tree1 (prog : Program) (w : World) (mean : ExcName → Option Value) (mg mb : Str → Option Value) (d : Nat) (IH : TreeGives prog w mean mg mb d) : TreeGives prog w mean mg mb (d + 1) := by
  w_top off
  k_with_none
  (k_with "nepick" => (first | (refine Nat.ne_of_lt ?_; first | exact Mine.pl_0 (by with_reducible assumption) | exact Mine.pl_1 (by with_reducible assumption) | exact Mine.pl_2 (by with_reducible assumption) | exact Mine.pl_3 (by with_reducible assumption) | exact Mine.pl_4 (by with_reducible assumption) | exact Mine.pl_5 (by with_reducible assumption) | exact Mine.pl_6 (by with_reducible assumption) | exact Mine.pl_7 (by with_reducible assumption) | exact Mine.pl_8 (by with_reducible assumption) | exact Mine.pl_9 (by with_reducible assumption) | exact Mine.pl_10 (by with_reducible assumption) | exact Mine.pl_11 (by with_reducible assumption) | exact Mine.pl_12 (by with_reducible assumption) | exact Mine.pl_13 (by with_reducible assumption) | exact Mine.pl_14 (by with_reducible assumption) | exact Mine.pl_15 (by with_reducible assumption) | exact Mine.pl_16 (by with_reducible assumption) | (refine Nat.lt_succ_of_lt ?_; first | exact Mine.pl_0 (by with_reducible assumption) | exact Mine.pl_1 (by with_reducible assumption) | exact Mine.pl_2 (by with_reducible assumption) | (refine Nat.lt_succ_of_lt ?_; first | exact Mine.pl_0 (by with_reducible assumption) | exact Mine.pl_1 (by with_reducible assumption) | exact Mine.pl_2 (by with_reducible assumption) | (refine Nat.lt_succ_of_lt ?_; first | exact Mine.pl_0 (by with_reducible assumption) | exact Mine.pl_1 (by with_reducible assumption) | exact Mine.pl_2 (by with_reducible assumption) | (refine Nat.lt_succ_of_lt ?_; first | exact Mine.pl_0 (by with_reducible assumption) | exact Mine.pl_1 (by with_reducible assumption) | exact Mine.pl_2 (by with_reducible assumption) | (refine Nat.lt_succ_of_lt ?_; first | exact Mine.pl_0 (by with_reducible assumption) | exact Mine.pl_1 (by with_reducible assumption) | exact Mine.pl_2 (by with_reducible assumption))))))) | (refine Ne.symm (Nat.ne_of_lt ?_); first | exact Mine.pl_0 (by with_reducible assumption) | exact Mine.pl_1 (by with_reducible assumption) | exact Mine.pl_2 (by with_reducible assumption) | exact Mine.pl_3 (by with_reducible assumption) | exact Mine.pl_4 (by with_reducible assumption) | exact Mine.pl_5 (by with_reducible assumption) | exact Mine.pl_6 (by with_reducible assumption) | exact Mine.pl_7 (by with_reducible assumption) | exact Mine.pl_8 (by with_reducible assumption) | exact Mine.pl_9 (by with_reducible assumption) | exact Mine.pl_10 (by with_reducible assumption) | exact Mine.pl_11 (by with_reducible assumption) | exact Mine.pl_12 (by with_reducible assumption) | exact Mine.pl_13 (by with_reducible assumption) | exact Mine.pl_14 (by with_reducible assumption) | exact Mine.pl_15 (by with_reducible assumption) | exact Mine.pl_16 (by with_reducible assumption))))
  (k_with "@units_room" => (have hcL' := cLine_is; simp only [units_in1, units_deeper, Around.mark_units]; dsimp only [ktrTop]; omega))
  (k_with "@k_all" => assumption)
  (k_with "@k_ne" => (refine neN ?_; (try dsimp only); first | with_reducible assumption | (refine Ne.symm ?_; with_reducible assumption) | k_extra "nepick"))
  (k_with "@k_all" => (refine' Abv.one ?aZq ?bZq; (case aZq => exact ne_cons (by k_ne) (ne_cons (by k_ne) (ne_cons (by k_ne) (by first | exact off_rest3 (by k_all) | exact off_rest2 (by k_all))))); (case bZq => k_all)))
  (k_with "@k_all" => exact Abv.nil)
  (k_with "@k_all" => first | exact List.forall_mem_nil _ | (refine' List.forall_mem_cons.mpr ⟨?aZq, ?bZq⟩; (case aZq => k_ne); (case bZq => k_all)))
  (k_with "call ref" => (k_here; k_dflt (refine' pull_use ?BZq ?FZq ?XZq ?NZq ?TZq ?hkZq ?UZq ?hiZq ?haZq ?hbZq ?hlZq ?hdZq ?huZq ?_); (case BZq => k_asm); (case FZq => k_asm); (case XZq => k_asm); (case NZq => k_asm); (case TZq => k_asm); (case hkZq => rfl); (case UZq => k_updF); (case hiZq => assumption); (case haZq => decide); (case hbZq => decide); (case hlZq => omega); (case hdZq => ktr_room); (case huZq => ktr_units); intro _ _ _ _ _ _ _ _ _ _ _ _ _; (try dsimp only); (try k_sweep)))
  (k_with "call ref" => (k_here; k_dflt (refine' leaf_use (pre := [_, _, _, _, _]) ?BZq ?FZq ?XZq ?NZq ?TZq ?hkZq ?hiZq ?hSMZq ?h1Zq ?h2Zq ?hlZq ?hl2Zq ?hdZq ?huZq ?_); (case NZq => k_asm); (case BZq => k_asm); (case FZq => k_asm); (case XZq => k_asm); (case TZq => k_asm); (case hkZq => rfl); (case hiZq => assumption); (case hSMZq => assumption); (case h1Zq => (dsimp only [List.cons_append, List.nil_append]; k_all)); (case h2Zq => (dsimp only [List.cons_append, List.nil_append]; k_all)); (case hlZq => omega); (case hl2Zq => omega); (case hdZq => ktr_room); (case huZq => ktr_units); intro _ _ _ _ _ _ _ _ _ _ _ _ _ _ _ _ _ _ _; (try dsimp only); (try k_sweep)))
  (k_with "CompSrc" => refine Blk.mk ?_)
  (k_with "subscriptTail" => (k_here; k_dflt (refine' my_cnt (by k_asm) (by omega) (by omega) ?_); intro _ _ _; (try dsimp only)))
  (k_with "call builtin:len" => (k_here; k_dflt (refine' my_len (by k_asm) (by k_mem) (by first | assumption | (simp only [List.length_append]; omega)) ?_); (try dsimp only)))
  (k_with "subscriptTail" => (k_here; k_dflt (refine' my_bf (by k_asm) (by omega) (by omega) ?_); intro _; (try dsimp only)))
  (k_with "subscriptTail" => (k_here; k_dflt (refine' my_w5 (by k_asm) (by omega) (by omega) ?_); intro _; (try dsimp only)))
  (k_with "call type:tuple" => (k_here; (with_reducible show wpAny _ _ (call (Value.type _) [Value.ref _]) _ _ _); k_dflt (refine' kde_tupleOf ?k1Zq ?k2Zq ?k3Zq ?k4Zq ?k5Zq ?_; (case k1Zq => k_asm); (case k2Zq => k_asm); (case k3Zq => exact my_isList (by k_asm) (by k_mem)); (case k4Zq => (rw [List.size_toArray]; omega)); (case k5Zq => exact List.toList_toArray); k_whole); intro _ _ _ _ l1Zq; (try k_lt l1Zq); (try k_sweep)))
  (k_with "call builtin:list.append" => (k_here; (with_reducible show wpAny _ _ (call (Value.builtin _) [Value.ref _, _]) _ _ _); k_dflt (refine' append_K ?k1Zq ?k2Zq ?k3Zq ?_ ?zZq; (case k1Zq => k_asm); (case k2Zq => k_asm); (case k3Zq => k_upd); (case zZq => (rw [sizeLine_eq]; simp only [List.size_toArray, List.length_append]; omega)); k_whole); intro _ _ _; (try k_sweep)))
  (k_with "CompSrcT" => (k_here; k_dflt (refine' filt_src ?k1Zq ?k2Zq ?k3Zq ?k4Zq ?k5Zq ?k6Zq ?k7Zq ?k8Zq ?_; (case k1Zq => rfl); (case k2Zq => k_asm); (case k3Zq => k_asm); (case k4Zq => k_mem); (case k5Zq => first | omega | (simp only [List.length_cons, List.length_nil]; omega) | exact Nat.le_of_ble_eq_true rfl); (case k6Zq => (intro _; rfl)); (case k7Zq => (intro _; rfl)); (case k8Zq => rfl)); intro _; unfold LCg.FinE; intro _ _ _ _ _ oZq; (simp only [LCg.Off1, off1_eq] at oZq); (repeat (have := oZq.1; replace oZq := oZq.2)); (try dsimp only)))
  (k_with "subscriptTail" => (k_here; (with_reducible show wpAny _ _ (subscriptTail _ _ (Value.ref _) (Value.int (Int.fmod _ 5) _)) _ _ _); k_dflt (refine' my_w5b (by k_asm) ?_); intro _ _ _; (try dsimp only)))
  (k_with "subscriptTail" => (k_here; (with_reducible show wpAny _ _ (subscriptTail _ _ (Value.ref _) (Value.int 0 _)) _ _ _); k_dflt (refine' my_itemA (its := List.toArray [_]) (by k_asm) (by k_mem) (by decide) (by decide) ?hxZq ?_); (case hxZq => exact rfl); (try dsimp only)))
  (k_with "subscriptTail" => (k_here; (with_reducible show wpAny _ _ (subscriptTail _ _ (Value.ref _) (Value.int _ _)) _ _ _); (first | (with_reducible show wpAny _ _ (subscriptTail _ _ (Value.ref _) (Value.int 0 _)) _ _ _) | (with_reducible show wpAny _ _ (subscriptTail _ _ (Value.ref _) (Value.int 1 _)) _ _ _)); k_dflt (refine' my_itemA (its := List.toArray [_, _]) (by k_asm) (by k_mem) (by decide) (by decide) ?hxZq ?_); (case hxZq => exact rfl); (try dsimp only)))
  (k_with "exec If" => ((with_reducible show wpAny _ _ (exec (Stmt.If _ _ (_ :: _) _) _) _ _ _); (fail_if_success (with_reducible rename CutOn => x9Zq)); refine Blk.mk ?_))
  (k_with "exec Assign cons ListComp" => ((fail_if_success (with_reducible show wpAny _ _ _ (CutQ _) _ _)); refine Blk.mk ?_))
  unfold TreeGives Gives
  intro aS aM aI vs ns n ms n2 is n3 rest deep dtk hi hoff hoff2 hoff3 hSM hSI hMI hlen hlen2 hlen3 hdeep hd4 dp un gd cn cs a ccd cl outer A₀ base h₀ L m s Q E B F X N T hk hd hu hret
  have hbp := bnd_pos d
  have hbe : bnd (d + 1) = 3 * bnd d + 1 := rfl
  refine wpAny_call ?_
  k_dflt (refine' code_defC ?k1 ?k2 ?k3 ?k4 ?k5 ?kA ?kF ?kK ?k6 ?k7 ?k8 ?k9 ?kB ?kD ?_ ?c2 ?c3 ?c4; (case kA => exact rfl); (case kF => exact rfl); (case kK => assumption); (case k1 => k_asm); (case k2 => k_asm); (case k3 => k_asm); (case k4 => k_asm); (case k5 => k_asm); (case k6 => k_is); (case k7 => k_is); (case k8 => ktr_room); (case k9 => exact BindsTo.of_eq rfl); (case kB => exact rfl); (case kD => decide +kernel); (case c2 => exact rfl); (case c3 => exact rfl); (case c4 => exact rfl))
  intro g9 L9 h9 tk9 cells9 FG9 F9 N9 Y9 B9 X9 T9 l9
  obtain ⟨o1, o2, o3, o4, o5, hE, e1, e2, e3, e4, e5⟩ := kc_five Y9
  subst hE
  clear Y9
  k_lt l9
  replace F9 : Fr g9 L9 h9 (fun _ => none) := F9
  replace e1 : o1.data = .cell none := e1
  replace e2 : o2.data = .cell (some (.int deep dtk)) := e2
  replace e3 : o3.data = .cell (some (.ref aI)) := e3
  replace e4 : o4.data = .cell (some (.ref aM)) := e4
  replace e5 : o5.data = .cell (some (.ref aS)) := e5
  simp only [List.cons_append, List.nil_append] at N9
  try k_fold
  k_steps
  · exact hret _ _ _ _ (by assumption) (tree_news0 (by assumption)) (tree_end0 (bnd_pos (d + 1)) (by assumption) (by omega) (by assumption) (by assumption) (by assumption) (by assumption) (by assumption))
  refine Blk.out ?_
  rename Fr g9 _ _ _ => F8
  rename ¬ _ < (2 : Int) => hk2
  rename Int => i9
  refine cut_kids F8 (fun k => (i9 < 5 ∧ k ≤ 3) ∨ (5 ≤ i9 ∧ k = 1)) s aS aM aI vs ms is rest [(L9 + 1 + 1 + 1 + 1 + 1, o1), (L9 + 1 + 1 + 1 + 1, o2), (L9 + 1 + 1 + 1, o3), (L9 + 1 + 1, o4), (L9 + 1, o5)] (bnd d) ?ka ?kb
  case ka =>
    k_steps
    · refine Blk.out ?_
      refine kids_src (cells := [_, _, _, _, _, _]) (vs0 := vs) (Bd := bnd d) rfl (by k_asm) (by k_asm) (by k_asm) (by first | rfl | assumption) (by first | assumption | decide) (by assumption) (by omega) ?_ ?_
      · intro g' i ys vs' ns' n' mn n2' inn n3' ts tl v I oI C oC D m₂ h tk E' hi j0 j1 j2 j3 j4 j5 j6 j7 j8 j9 hP hC hx F N off ne
        have N2 := N
        have off2 := off
        dsimp only [List.cons_append, List.nil_append] at N2 off2
        refine off3_3 off2 ?_; clear off2; intro _ _ _ _ _ _ _ _ _ off2
        refine off3_3 off2 ?_; clear off2; intro _ _ _ _ _ _ _ _ _ off2
        refine off3_3 off2 ?_; clear off2; intro _ _ _ _ _ _ _ _ _ off2
        k_steps
        refine' kids_call IH ?k1 ?k2 ?k3 ?k4 rfl j0 j1 j2 j3 j4 j5 j6 j7 j8 j9 N off ⟨rfl, rfl, rfl⟩ (fun _ => trivial) ?c1 ?c2 ?c3 hoff hoff2 hoff3 hSM hSI hMI ?i3 hlen hlen2 hlen3 ?dp ?d4 ?hd ?hu
        case k1 => k_asm
        case k2 => k_asm
        case k3 => k_asm
        case k4 => k_asm
        case c1 => k_all
        case c2 => k_all
        case c3 => k_all
        case i3 => omega
        case dp => omega
        case d4 => omega
        case hd => ktr_room
        case hu => ktr_units
      · intro g' ys vs' ns' n' mn n2' inn n3' ts tl j0 j1 j2 j3 j4 j5 j6 j7 j8 j9
        unfold LCg.FinA
        intro D0 h0 tk0 F0 N0 o0
        exact kst_fin (pre := [_]) (cells := [_, _, _, _, _]) F0 N0 j0 j1 j2 j3 j4 j5 (by rw [j8]; exact j6) (by rw [j8]; exact j7) (by omega) j9 (off1_mem o0)
    · refine Blk.out ?_
      refine kids_src (c := 1) (cells := [_, _, _, _, _]) (vs0 := vs) (Bd := bnd d) rfl (by k_asm) (by k_asm) (by k_asm) (by first | rfl | assumption) (by first | assumption | decide) (by assumption) (by omega) ?_ ?_
      · intro g' i ys vs' ns' n' mn n2' inn n3' ts tl v I oI C oC D m₂ h tk E' hi j0 j1 j2 j3 j4 j5 j6 j7 j8 j9 hP hC hx F N off ne
        have N2 := N
        have off2 := off
        dsimp only [List.cons_append, List.nil_append] at N2 off2
        refine off3_3 off2 ?_; clear off2; intro _ _ _ _ _ _ _ _ _ off2
        refine off3_3 off2 ?_; clear off2; intro _ _ _ _ _ _ _ _ _ off2
        refine off3_1 off2 ?_; clear off2; intro _ _ _ off2
        refine off3_1 off2 ?_; clear off2; intro _ _ _ off2
        k_steps
        refine' kids_call IH ?k1 ?k2 ?k3 ?k4 rfl j0 j1 j2 j3 j4 j5 j6 j7 j8 j9 N off ⟨rfl, rfl, rfl⟩ (fun _ => trivial) ?c1 ?c2 ?c3 hoff hoff2 hoff3 hSM hSI hMI ?i3 hlen hlen2 hlen3 ?dp ?d4 ?hd ?hu
        case k1 => k_asm
        case k2 => k_asm
        case k3 => k_asm
        case k4 => k_asm
        case c1 => k_all
        case c2 => k_all
        case c3 => k_all
        case i3 => omega
        case dp => omega
        case d4 => omega
        case hd => ktr_room
        case hu => ktr_units
      · intro g' ys vs' ns' n' mn n2' inn n3' ts tl j0 j1 j2 j3 j4 j5 j6 j7 j8 j9
        unfold LCg.FinA
        intro D0 h0 tk0 F0 N0 o0
        exact kst_fin (pre := []) (cells := [_, _, _, _, _]) F0 N0 j0 j1 j2 j3 j4 j5 (by rw [j8]; exact j6) (by rw [j8]; exact j7) (by omega) j9 (off1_mem o0)
  case kb =>
    intro D0 e0 h0 tk0 ys vs' ns' n' mn n2' inn n3' ts tl F0 N0 j0 j1 j2 j3 j4 j5 j6 j7 hP j9 o0 hD1
    have hne := kst_ne (oS := listOf vs'.toArray n') (oM := listOf (ms ++ mn).toArray n2') (oI := listOf (is ++ inn).toArray n3') o0 hD1
    have o0c := o0
    dsimp only [List.map_cons, List.map_nil, List.cons_append, List.nil_append] at o0 N0
    refine fm_4 o0 ?_; clear o0; intro _ _ _ _ o0
    refine fm_4 o0 ?_; clear o0; intro _ _ _ _ o0
    have hAS := ne_tl j9 m_s hoff
    have hAM := ne_tl j9 m_m hoff2
    have hAI := ne_tl j9 m_a hoff3
    have hA5 : ∀ p ∈ tl ++ rest, p.1 ≠ L9 + 1 + 1 + 1 + 1 + 1 := ne_tl j9 (.head _) (ne_lt l9.2.2.2 (by omega))
    dsimp only
    refine wpAny_execs_cons ?_
    refine cut_kids F8 (fun k => (i9 < 5 ∧ k ≤ 3) ∨ (i9 = 5 ∧ k = 2) ∨ (5 < i9 ∧ k = 1)) s aS aM aI vs ms is rest [(L9 + 1 + 1 + 1 + 1 + 1, o1), (L9 + 1 + 1 + 1 + 1, o2), (L9 + 1 + 1 + 1, o3), (L9 + 1 + 1, o4), (L9 + 1, o5)] (bnd d) ?la ?lb
    case la =>
      k_steps
      · have hy1 : ys.length = 1 := by omega
        have j6' := j6
        have j7' := j7
        rw [hy1] at j6' j7'
        refine' tree_use (pre := [_, _, _, _, _, _]) IH ?k1 ?k2 ?k3 ?k4 ?k5 rfl j0 hSM hSI hMI ?c1 ?c2 ?c3 ?l1 ?l2 ?l3 ?dp ?d4 ?hd ?hu ?_
        case k4 => k_asm
        case k1 => k_asm
        case k2 => k_asm
        case k3 => k_asm
        case k5 => k_asm
        case c1 => dsimp only [List.cons_append, List.nil_append]; k_all
        case c2 => dsimp only [List.cons_append, List.nil_append]; k_all
        case c3 => dsimp only [List.cons_append, List.nil_append]; k_all
        case l1 => omega
        case l2 => rw [List.length_append]; omega
        case l3 => rw [List.length_append]; omega
        case dp => omega
        case d4 => omega
        case hd => ktr_room
        case hu => ktr_units
        intro vs2 ns2 nS2 mn2 nM2 inn2 nI2 t2 tl2 r2 h' tk' g1 g2 g3 g4 g5 g6 g7 g8 g9 F' N'
        simp only [List.cons_append, List.nil_append, List.append_assoc] at N' g4
        have zS := ne_tl g9 (.head _) hAS
        have zM := ne_tl g9 (.tail _ (.head _)) hAM
        have zI := ne_tl g9 (.tail _ (.tail _ (.head _))) hAI
        have zD := ne_tl g9 (show D0 ∈ _ by simp) hD1
        have z5 := ne_tl g9 (show L9 + 1 + 1 + 1 + 1 + 1 ∈ _ by simp) hA5
        k_steps
        rename News _ _ _ _ => kN9
        rename Fr _ _ _ _ => kF9
        rw [show ys.toArray.push r2 = (ys ++ [r2]).toArray from by simp, ← List.append_assoc tl2 tl rest] at kN9
        have hy2 : (ys ++ [r2]).length = 2 := by simp [hy1]
        exact kst_fin (pre := []) (cells := [_, _, _, _, _]) (tl := tl2 ++ tl) kF9 kN9 g1 (by omega) (Tr.allIn_snoc (j2.mono TupSub.append_l) (g3.mono TupSub.append_r)) (Tr.okAll_snoc j3 g4) (by rw [Tr.postAll_snoc]; exact (j4.mono TupSub.append_l).append (g5.mono TupSub.append_r)) ((j5.mono TupSub.append_l).append (g6.mono TupSub.append_r))
          (by rw [hy2, List.length_append]; omega) (by rw [hy2, List.length_append]; omega) (.inr (.inl ⟨by assumption, hy2⟩)) ((abv_kst g9).append j9) (kst_ne o0c (by rw [List.append_assoc]; exact zD))
      · rename News g9 _ _ _ => kN9
        rename Fr g9 _ _ _ => kF9
        exact kst_fin (pre := []) (cells := [_, _, _, _, _]) kF9 kN9 j0 j1 j2 j3 j4 j5 j6 j7 (by omega) j9 hne
    case lb =>
      clear N0 F0 j0 j1 j2 j3 j4 j5 j6 j7 hP j9 o0 o0c hD1 hne hAS hAM hAI hA5
      intro D0 e0 h0 tk0 ys vs' ns' n' mn n2' inn n3' ts tl F0 N0 j0 j1 j2 j3 j4 j5 j6 j7 hP j9 o0 hD1
      dsimp only [List.map_cons, List.map_nil, List.cons_append, List.nil_append] at o0 N0
      refine fm_4 o0 ?_; clear o0; intro _ _ _ _ o0
      refine fm_4 o0 ?_; clear o0; intro _ _ _ _ o0
      have hy3 : ys.length ≤ 3 := by omega
      have hcc : mn.length ≤ 3 * bnd d := Nat.le_trans j6 (Nat.mul_le_mul_right _ hy3)
      have hcc2 : inn.length ≤ 3 * bnd d := Nat.le_trans j7 (Nat.mul_le_mul_right _ hy3)
      have hAS := ne_tl j9 m_s hoff
      have hAM := ne_tl j9 m_m hoff2
      have hAI := ne_tl j9 m_a hoff3
      have hA5 : ∀ p ∈ tl ++ rest, p.1 ≠ L9 + 1 + 1 + 1 + 1 + 1 := ne_tl j9 (.head _) (ne_lt l9.2.2.2 (by omega))
      dsimp only
      k_steps
      refine Blk.out ?_
      rename Fr g9 _ _ _ => F7
      rename Obj => o9
      refine cut_node F7 s [(D0, listOf ys.toArray e0), (L9 + 1 + 1 + 1 + 1 + 1, o9), (L9 + 1 + 1 + 1 + 1, o2), (L9 + 1 + 1 + 1, o3), (L9 + 1 + 1, o4), (L9 + 1, o5), (aS, listOf vs'.toArray n'), (aM, listOf (ms ++ mn).toArray n2'), (aI, listOf (is ++ inn).toArray n3')] tl rest (aS :: aM :: aI :: rest.map (·.1)) (ms ++ mn).length ys ?na ?nb
      case na =>
        have hcut : CutOn := trivial
        rcases hP with ⟨h5, hl⟩ | ⟨h5, hl⟩ | ⟨h5, hl⟩
        · k_steps
          all_goals try (exfalso; omega)
          · rename News _ _ _ _ => kN9
            rename Fr _ _ _ _ => kF9
            exact node_cut (kd := 5 + _) (fr := [_, _, _, _, _]) kF9 kN9 (nd_blk (by k_mem) rfl (by omega) (by k_mem) (by k_mem) (isShown (by k_mem)) (by omega)) (by k_all) (j9.sub fun b hb => List.mem_append.mpr (.inr hb))
          · refine Blk.out ?_
            refine rows_src (cells := [_, _, _, _, _, _, _, _, _, _]) (tail := tl ++ rest) (sp := (_, tup [.str (Str.ofString "set") _, .int 1 _, .str (Str.ofString "no statement") _])) (as := aS :: aM :: aI :: rest.map (·.1)) rfl (by k_asm) (by k_asm) (by k_mem) (by k_mem) (by omega) ?_ ?_
            · intro g' i rows news v I oI C oC D m₂ h tk E' J hv hC hx F N off ne
              obtain ⟨rl, rfl, r1, r2⟩ := J
              have off2 := off
              dsimp only [List.cons_append, List.nil_append] at N off2
              refine off3_3 off2 ?_; clear off2; intro _ _ _ _ _ _ _ _ _ off2
              refine off3_3 off2 ?_; clear off2; intro _ _ _ _ _ _ _ _ _ off2
              refine off3_3 off2 ?_; clear off2; intro _ _ _ _ _ _ _ _ _ off2
              refine off3_1 off2 ?_; clear off2; intro _ _ _ off2
              k_steps
              exact rows_end (by k_asm) (by assumption) off ⟨by k_ne, by k_ne, by k_ne⟩ ⟨by k_ne, by k_ne, by k_ne⟩ (by k_mem) r1 r2 hv (isShown (by k_mem)) (by k_all)
            · intro g' rows news J
              obtain ⟨rl, rfl, r1, r2⟩ := J
              have r1 := rows_take r1
              have hrl := r1.length
              simp only [List.cons_append, List.nil_append]
              unfold LCg.FinE
              intro D' h' tk' F' N' o'
              simp only [LCg.Off1, off1_eq] at o'
              repeat (have := o'.1; replace o' := o'.2)
              try dsimp only
              have hAS3 := ne_tl r2 (.head _) hAS
              have hAM3 := ne_tl r2 (.tail _ (.head _)) hAM
              have hAI3 := ne_tl r2 (.tail _ (.tail _ (.head _))) hAI
              k_steps
              rename News _ _ _ _ => kN9
              rename Fr _ _ _ _ => kF9
              exact node_cut3 (kd := 7) (fr := [_, _, _, _]) (rl := rl) kF9 kN9 (nd_cas (by k_mem) rfl (by k_mem) (isShown (by k_mem)) (by omega) (r1.mono fun x hx => (List.mem_cons.mp hx).elim (fun e => e ▸ (by k_mem)) fun hx => List.mem_append.mpr (.inr hx))) (by k_all) r2 (j9.sub fun b hb => List.mem_append.mpr (.inr hb))
        · obtain ⟨y1, y2, rfl⟩ := len_two hl
          k_steps
          all_goals try (exfalso; omega)
          rename News _ _ _ _ => kN9
          rename Fr _ _ _ _ => kF9
          exact node_cut (kd := 8) (fr := [_, _]) kF9 kN9 (nd_iff (by k_mem) rfl (isShown (by k_mem))) (by k_all) (j9.sub fun b hb => List.mem_append.mpr (.inr hb))
        · obtain ⟨y, rfl⟩ := List.length_eq_one_iff.mp hl
          k_steps
          all_goals try (exfalso; omega)
          · rename News _ _ _ _ => kN9
            rename Fr _ _ _ _ => kF9
            exact node_cut (kd := 9) (fr := [_, _, _, _]) kF9 kN9 (nd_rng (by k_mem) rfl (by k_mem) (by k_mem) (isShown (by k_mem))) (by k_all) (j9.sub fun b hb => List.mem_append.mpr (.inr hb))
          · rename News _ _ _ _ => kN9
            rename Fr _ _ _ _ => kF9
            exact node_cut (kd := 10) (fr := [_, _]) kF9 kN9 (nd_fev (by k_mem) rfl) (by k_all) (j9.sub fun b hb => List.mem_append.mpr (.inr hb))
          · rename News _ _ _ _ => kN9
            rename Fr _ _ _ _ => kF9
            exact node_cut (kd := 11 + _) (fr := [_, _, _]) kF9 kN9 (nd_one (by k_mem) rfl (by omega) (by omega) (isShown (by k_mem))) (by k_all) (j9.sub fun b hb => List.mem_append.mpr (.inr hb))
      case nb =>
        intro D kd h1 tk1 tl2 F1 N1 hN1 hs1 hA1
        dsimp only [List.cons_append, List.nil_append] at N1
        have zM := ne_tl hA1 (.tail _ (.head _)) hoff2
        have zI := ne_tl hA1 (.tail _ (.tail _ (.head _))) hoff3
        have zS := ne_tl hA1 (.head _) hoff
        dsimp only
        k_steps
        rename News h₀ L _ _ => kN9
        rename Fr h₀ L _ _ => kF9
        refine' (tree_end4 (vs := vs) (k := kd) (B := bnd (d + 1)) (fr := [_, _]) (mid := [_, _, _, _, _, _]) kN9 j0 j1 (j2.mono hs1) j3 (j4.mono hs1) (j5.mono hs1) (by omega) (by omega) hA1 hN1 (by k_mem) (by k_mem) ?hA).elim fun nw h => hret _ _ _ _ kF9 h.1 h.2
        case hA => k_all
end Mine
end

section
open PySem PySem.W PyProof.Rows PySem.Calls PySem.Spec
set_option maxRecDepth 100000
namespace Mine
theorem off_own {news own : Led} {a : Addr} {as : List Addr} (h1 : ∀ p ∈ news, p.1 ≠ a) (h2 : OwnOff own as) (ha : a ∈ as) : ∀ p ∈ news ++ own, p.1 ≠ a := by
  intro p hp
  rcases List.mem_append.mp hp with h | h
  · exact h1 p h
  · exact fun e => h2 p h a ha e
theorem st_end {stored : List Str} {m' m₀ : Str → Option Value} (h : ∀ z, stored.contains z = false → m' z = m₀ z) : ∃ u : Str → Option Value, m' = fun z => if stored.contains z then u z else m₀ z := by
  refine ⟨m', funext fun z => ?_⟩
  cases e : stored.contains z with
  | true => rw [if_pos rfl]
  | false => rw [if_neg (by decide)]; exact h z e
theorem off_lt {news : Led} {a : Addr} (h : ∀ p ∈ news, p.1 < a) : ∀ p ∈ news, p.1 ≠ a := fun p hp => Nat.ne_of_lt (h p hp)
theorem OwnOff.sub {own : Led} {as bs : List Addr} (h : OwnOff own as) (hs : ∀ b ∈ bs, b ∈ as) : OwnOff own bs := fun p hp b hb => h p hp b (hs b hb)
theorem open_end {g h' : Heap} {L aS D : Addr} {m' m₀ : Str → Option Value} {ws vs2 : List Value} {ns2 : List Int} {arr : Array Value} {n2 i tk : Nat} {news own : Led} {s₁ : Shared} {stored : List Str}
    (F : Fr g L h' m') (N : News g L h' ((aS, listOf arr n2) :: (D, listOf ws.toArray 0) :: (news ++ own))) (e : arr = vs2.toArray) (hi : IntsAre vs2 ns2) (hl : vs2.length ≤ 2 * (i + 1)) (ho : OwnOff own (aS :: D :: news.map (·.1)))
    (hm : ∀ z, stored.contains z = false → m' z = m₀ z) :
    InvEndG g L (fun m' nx => (D, listOf ws.toArray 0) ∈ nx ∧ ∃ vs' ns' n', nx = (aS, listOf vs'.toArray n') :: (D, listOf ws.toArray 0) :: news ∧ IntsAre vs' ns' ∧ vs'.length ≤ 2 * (i + 1) ∧ ∃ u : Str → Option Value, m' = fun z => if stored.contains z then u z else m₀ z) own s₁ { s₁ with heap := h', toks := tk } := by
  subst e
  refine InvEndG.intro F N ⟨?_, vs2, ns2, n2, rfl, hi, hl, st_end hm⟩ (by simpa using ho) ?_ ?_
  · simp
  · intro p hp
    simp only [List.mem_cons, List.mem_append] at hp ⊢
    rcases hp with h | h | h <;> simp [h]
  · intro p hp
    simp [hp]
theorem open_end1 {g h' : Heap} {L aS D : Addr} {m' m₀ : Str → Option Value} {ws vs' : List Value} {ns' : List Int} {x : Int} {t : Tok} {n2 i tk : Nat} {news own : Led} {s₁ : Shared} {stored : List Str}
    (F : Fr g L h' m') (N : News g L h' ((aS, listOf (vs'.toArray.push (.int x t)) n2) :: (D, listOf ws.toArray 0) :: (news ++ own))) (hi : IntsAre vs' ns') (hl : vs'.length ≤ 2 * i) (ho : OwnOff own (aS :: D :: news.map (·.1)))
    (hm : ∀ z, stored.contains z = false → m' z = m₀ z) :
    InvEndG g L (fun m' nx => (D, listOf ws.toArray 0) ∈ nx ∧ ∃ vs' ns' n', nx = (aS, listOf vs'.toArray n') :: (D, listOf ws.toArray 0) :: news ∧ IntsAre vs' ns' ∧ vs'.length ≤ 2 * (i + 1) ∧ ∃ u : Str → Option Value, m' = fun z => if stored.contains z then u z else m₀ z) own s₁ { s₁ with heap := h', toks := tk } :=
  open_end (vs2 := vs' ++ [.int x t]) F N (by simp) (hi.append (.cons _ _ .nil)) (by simp; omega) ho hm
theorem open_end2 {g h' : Heap} {L aS D : Addr} {m' m₀ : Str → Option Value} {ws vs' : List Value} {ns' : List Int} {x y : Int} {t r : Tok} {n2 i tk : Nat} {news own : Led} {s₁ : Shared} {stored : List Str}
    (F : Fr g L h' m') (N : News g L h' ((aS, listOf ((vs'.toArray.push (.int x t)).push (.int y r)) n2) :: (D, listOf ws.toArray 0) :: (news ++ own))) (hi : IntsAre vs' ns') (hl : vs'.length ≤ 2 * i) (ho : OwnOff own (aS :: D :: news.map (·.1)))
    (hm : ∀ z, stored.contains z = false → m' z = m₀ z) :
    InvEndG g L (fun m' nx => (D, listOf ws.toArray 0) ∈ nx ∧ ∃ vs' ns' n', nx = (aS, listOf vs'.toArray n') :: (D, listOf ws.toArray 0) :: news ∧ IntsAre vs' ns' ∧ vs'.length ≤ 2 * (i + 1) ∧ ∃ u : Str → Option Value, m' = fun z => if stored.contains z then u z else m₀ z) own s₁ { s₁ with heap := h', toks := tk } :=
  open_end (vs2 := vs' ++ [.int x t, .int y r]) F N (by simp) (hi.append (.cons _ _ (.cons _ _ .nil))) (by simp; omega) ho hm
theorem ints_rev {vs : List Value} {ns : List Int} (h : IntsAre vs ns) : IntsAre vs.reverse ns.reverse := by
  induction h with
  | nil => exact .nil
  | cons n t _ ih => rw [List.reverse_cons, List.reverse_cons]; exact ih.append (.cons _ _ .nil)
theorem open_news {g h : Heap} {L aS D : Addr} {vs : List Value} {n k : Nat} {ws : List Value} {news : Led} (N : News g L h ((aS, listOf vs.toArray.toList.reverse.toArray n) :: (D, listOf ws.toArray k) :: news)) : News g L h ((aS, listOf vs.reverse.toArray n) :: news) := by
  refine newsSub N fun p hp => ?_
  rcases List.mem_cons.mp hp with rfl | hp
  · exact .head _
  · exact .tail _ (.tail _ hp)
set_option maxHeartbeats 4000000 in
theorem open_use {prog : Program} {w : World} {mean : ExcName → Option Value} {mg mb : Str → Option Value} {l : Addr} {vs : List Value} {ns : List Int} {news : Led}
    {dp u : Nat} {gd : Option (List Code)} {cn : Str} {cs : Scope} {a : Addr} {ccd : Value} {cl : List (Str × Addr)} {outer : List Env} {A₀ : Around} {base h₀ : Heap} {L : Addr} {m : Str → Option Value} {s : Shared} {Q E : Value → Shared → Prop}
    (B : Below A₀ base outer h₀) (F : Fr h₀ L s.heap m) (X : (hd.heap_1_39 w.params).In h₀) (N : News h₀ L s.heap news) (T : Top hd.view_1_40 (looseW hd.view_1_40 [Str.ofString "GateloomError"]) mean mg mb h₀) (hk : cs.kind = .function)
    (hl : h₀.IsList l vs.toArray) (hi : IntsAre vs ns) (hlen : ns.length ≤ 63) (hd : dp + 5 < recursionLimit) (hu : u + 200 < cLine)
    (hret : ∀ D vs' ns' n' h' tk', IntsAre vs' ns' → vs'.length ≤ 126 → (∀ p ∈ news, p.1 < D) → Fr h₀ L h' m → News h₀ L h' ((D, listOf vs'.toArray n') :: news) → Q (.ref D) { s with heap := h', toks := tk' }) :
    wpAny (model prog w) (ktrTop dp u gd cn cs L a ccd cl outer) (call (.ref 94) [.ref l]) Q E s := by
  w_top off
  k_with_none
  (k_with "nepick" => (first | (refine Nat.ne_of_lt ?_; first | exact Mine.pl_0 (by with_reducible assumption) | exact Mine.pl_1 (by with_reducible assumption) | exact Mine.pl_2 (by with_reducible assumption) | exact Mine.pl_3 (by with_reducible assumption) | exact Mine.pl_4 (by with_reducible assumption) | exact Mine.pl_5 (by with_reducible assumption) | exact Mine.pl_6 (by with_reducible assumption) | exact Mine.pl_7 (by with_reducible assumption) | exact Mine.pl_8 (by with_reducible assumption) | exact Mine.pl_9 (by with_reducible assumption) | exact Mine.pl_10 (by with_reducible assumption) | exact Mine.pl_11 (by with_reducible assumption) | exact Mine.pl_12 (by with_reducible assumption) | exact Mine.pl_13 (by with_reducible assumption) | exact Mine.pl_14 (by with_reducible assumption) | exact Mine.pl_15 (by with_reducible assumption) | exact Mine.pl_16 (by with_reducible assumption) | (refine Nat.lt_succ_of_lt ?_; first | exact Mine.pl_0 (by with_reducible assumption) | exact Mine.pl_1 (by with_reducible assumption) | exact Mine.pl_2 (by with_reducible assumption) | (refine Nat.lt_succ_of_lt ?_; first | exact Mine.pl_0 (by with_reducible assumption) | exact Mine.pl_1 (by with_reducible assumption) | exact Mine.pl_2 (by with_reducible assumption) | (refine Nat.lt_succ_of_lt ?_; first | exact Mine.pl_0 (by with_reducible assumption) | exact Mine.pl_1 (by with_reducible assumption) | exact Mine.pl_2 (by with_reducible assumption) | (refine Nat.lt_succ_of_lt ?_; first | exact Mine.pl_0 (by with_reducible assumption) | exact Mine.pl_1 (by with_reducible assumption) | exact Mine.pl_2 (by with_reducible assumption) | (refine Nat.lt_succ_of_lt ?_; first | exact Mine.pl_0 (by with_reducible assumption) | exact Mine.pl_1 (by with_reducible assumption) | exact Mine.pl_2 (by with_reducible assumption))))))) | (refine Ne.symm (Nat.ne_of_lt ?_); first | exact Mine.pl_0 (by with_reducible assumption) | exact Mine.pl_1 (by with_reducible assumption) | exact Mine.pl_2 (by with_reducible assumption) | exact Mine.pl_3 (by with_reducible assumption) | exact Mine.pl_4 (by with_reducible assumption) | exact Mine.pl_5 (by with_reducible assumption) | exact Mine.pl_6 (by with_reducible assumption) | exact Mine.pl_7 (by with_reducible assumption) | exact Mine.pl_8 (by with_reducible assumption) | exact Mine.pl_9 (by with_reducible assumption) | exact Mine.pl_10 (by with_reducible assumption) | exact Mine.pl_11 (by with_reducible assumption) | exact Mine.pl_12 (by with_reducible assumption) | exact Mine.pl_13 (by with_reducible assumption) | exact Mine.pl_14 (by with_reducible assumption) | exact Mine.pl_15 (by with_reducible assumption) | exact Mine.pl_16 (by with_reducible assumption))))
  (k_with "@units_room" => (have hcL' := cLine_is; simp only [units_in1, units_deeper, Around.mark_units]; dsimp only [ktrTop]; omega))
  (k_with "@k_all" => assumption)
  (k_with "@k_ne" => (refine neN ?_; (try dsimp only); first | with_reducible assumption | (refine Ne.symm ?_; with_reducible assumption) | k_extra "nepick"))
  (k_with "pyIter ref" => (refine Blk.mk ?_))
  (k_with "exec For" => (k_here; (rename Fr _ _ _ _ => lFpZq); (with_unfolding_all refine' For_invVF lFpZq ?k1Zq ?k2Zq ?_; (case k1Zq => exact rfl); (case k2Zq => exact rfl); k_whole)))
  (k_with "call builtin:list.reverse" => (k_here; (with_reducible show wpAny _ _ (call (Value.builtin _) [Value.ref _]) _ _ _); k_dflt (refine' kl_reverse ?FZq ?NZq ?eZq ?UZq ?zZq ?_; (case FZq => k_asm); (case NZq => k_asm); (case UZq => k_upd); (case eZq => exact rfl); (case zZq => (rw [sizeLine_eq, List.toList_toArray]; omega))); intro _ _ _))
  refine wpAny_call ?_
  k_dflt ktr_enter
  rename Fr _ _ _ (fun y => List.lookup y _) => F9
  replace F9 : Fr _ _ _ (fun y => ([(Str.ofString "script", .ref l)] : List (Str × Value)).lookup y) := F9
  rename Fr h₀ L _ _ => FG9
  have hl9 := FG9.lst hl
  k_steps
  refine Blk.out ?_
  rename_i aS _ hlA _ D ws _ F9 N9 hI9 _ _ l1
  have h1 := off_lt (tb_ltOf l1.2)
  have hwl : ws.length ≤ 63 := by rw [hI9.length, List.length_take]; omega
  have h2 := off_lt hlA
  refine kdl_iter (vs := ws) (nn := 0) (J := fun i m' nx => ∃ vs' ns' n', nx = (aS, listOf vs'.toArray n') :: (D, listOf ws.toArray 0) :: news ∧ IntsAre vs' ns' ∧ vs'.length ≤ 2 * i ∧ ∃ u : Str → Option Value, m' = fun z => if [Str.ofString "cell", Str.ofString "rest"].contains z then u z else (if z = Str.ofString "stack" then some (Value.ref aS) else List.lookup z [(Str.ofString "script", Value.ref l)])) rfl ?_ (by assumption) (newsSub N9 (by rintro p hp; rcases List.mem_cons.mp hp with rfl | hp; { exact .tail _ (.head _) }; rcases List.mem_cons.mp hp with rfl | hp; { exact .head _ }; exact .tail _ (.tail _ hp))) ?_ ?_ ?_
  · simp
  · exact ⟨[], [], 0, rfl, .nil, by simp, st_end fun _ _ => rfl⟩
  · rintro i v m₁ nx h tk own hv ho _ ⟨vs', ns', n', rfl, hi', hl', u, rfl⟩ F₁ N₁
    obtain ⟨k, t, rfl⟩ := hI9.all v (List.mem_of_getElem? hv)
    have ho1 := off_own h2 ho (by simp)
    have hne : @Ne Nat aS D := Nat.ne_of_lt l1.1
    simp only [List.cons_append] at N₁
    have hb : vs'.length + 5 ≤ 200 := by have := (List.getElem?_eq_some_iff.mp hv).1; omega
    k_steps
    · refine open_end2 (by assumption) (by assumption) hi' hl' (by simpa using ho) (fun z hz => ?_)
      simp at hz
      simp [hz]
    · refine open_end1 (by assumption) (by assumption) hi' hl' (by simpa using ho) (fun z hz => ?_)
      simp at hz
      simp [hz]
  · rintro m₁ nx h tk ⟨vs', ns', n', rfl, hi', hl', u, rfl⟩ F₁ N₁
    have hb : vs'.length + 5 ≤ 200 := by omega
    have hne : @Ne Nat aS D := Nat.ne_of_lt l1.1
    have hb : vs'.length + 5 ≤ 200 := by omega
    have hne : @Ne Nat aS D := Nat.ne_of_lt l1.1
    k_steps

    rename News h₀ L _ _ => kN9
    rename Fr h₀ L _ _ => kF9
    exact hret _ vs'.reverse ns'.reverse n' _ _ (ints_rev hi') (by rw [List.length_reverse]; omega) hlA kF9 (open_news kN9)
end Mine
end

section
open PySem PySem.W PyProof.Rows PySem.Calls PySem.Spec
set_option maxRecDepth 100000
namespace Mine
/-- the tuple its stands in the ledger at ax -/
noncomputable def TupAt (ax : Addr) (its : List Value) (news : Led) : Prop := (ax, tup its) ∈ news
theorem TupAt.at {h₀ h : Heap} {L ax : Addr} {its : List Value} {news : Led} (x : TupAt ax its news) (N : News h₀ L h news) : h.IsTuple ax its.toArray := ⟨_, (N _ x).1, rfl, _, rfl⟩
theorem tup_st {h₀ : Heap} {L ax I : Addr} {its : List Value} (i : Nat) (h h' : Heap) (o : Obj) (nw : Led) (st : h.IsTupleIter I ax i ∧ h.IsTuple ax its.toArray) (e : h.get? I = some o) (e' : h'.get? I = some o) (_ : ∀ b o, h₀.get? b = some o → h'.get? b = some o)
    (N : News h₀ L h' nw) (S : TupAt ax its nw) : h'.IsTupleIter I ax i ∧ h'.IsTuple ax its.toArray := by
  refine ⟨?_, S.at N⟩
  obtain ⟨o', q, r⟩ := st.1
  rw [e] at q
  cases q
  exact ⟨o, e', r⟩

section
variable {prog : Program} {w : World} {A : Around} {E : Value → Shared → Prop} {s : Shared} {h₀ : Heap} {L : Addr} {m : Str → Option Value} {env : Env}

/-- the source of a block with a test, a tuple of the ledger -/
noncomputable def SrcTT (prog : Program) (w : World) (A : Around) (h₀ : Heap) (L : Addr) (m : Str → Option Value) (env : Env) (ct elt : PySem.Expr) (x : Str) (scope : Scope) (cl : List (Str × Addr)) (Q : Value → Shared → Prop) (xv : Value) (s₁ : Shared) : Prop :=
  ∃ ax its news, xv = .ref ax ∧ A.handled = none ∧ Fr h₀ L s₁.heap m ∧ News h₀ L s₁.heap news ∧ TupAt ax its news ∧ its.length ≤ 1000 ∧
    ∀ g, LCt.CompRestT prog w A h₀ L m env ct elt x scope cl { s₁ with heap := g } (TupAt ax its) (fun i v => its[i]? = some v) (LCg.FinE h₀ L m { s₁ with heap := g } Q) its.length 0 [] news
/-- the same, no test -/
noncomputable def SrcTU (prog : Program) (w : World) (A : Around) (h₀ : Heap) (L : Addr) (m : Str → Option Value) (env : Env) (elt : PySem.Expr) (x : Str) (scope : Scope) (cl : List (Str × Addr)) (Fin : Shared → List Value → Led → Prop) (xv : Value) (s₁ : Shared) : Prop :=
  ∃ ax its news, xv = .ref ax ∧ A.handled = none ∧ Fr h₀ L s₁.heap m ∧ News h₀ L s₁.heap news ∧ TupAt ax its news ∧ its.length ≤ 1000 ∧
    ∀ g, LCg.CompRest prog w A h₀ L m env elt x scope cl { s₁ with heap := g } (TupAt ax its) (fun i v => its[i]? = some v) (Fin { s₁ with heap := g }) its.length 0 [] news

theorem walksTup (hh : A.handled = none) (I ax : Addr) (hne : ax ≠ I) (its : List Value) : Walks prog w A I [I, ax] [I] its.length (fun i v => its[i]? = some v) (fun i h => h.IsTupleIter I ax i ∧ h.IsTuple ax its.toArray) := by
  have W := Walks.tuple (prog := prog) (w := w) hh I ax hne its.toArray
  rw [List.size_toArray] at W
  have e : (fun (i : Nat) (v : Value) => its.toArray[i]? = some v) = fun i v => its[i]? = some v := by funext i v; rw [List.getElem?_toArray]
  rw [e] at W
  exact W

theorem ListComp_tupT {ct elt iter : PySem.Expr} {x : Str} {px : Pos} {scope : Scope} {cl : List (Str × Addr)} {pos : Pos} {Q : Value → Shared → Prop} (_F₀ : Fr h₀ L s.heap m)
    (hclos : closureFor scope env = pure cl) (hcell : ∀ y ∈ scope.names, y.2 ≠ .cell) (hkind : scope.kind = .function)
    (hnames : ∀ y ∈ scope.names, y.2 = .local → scope.names.lookup y.1 = some .local) (hx : scope.names.lookup x = some .local)
    (h : wpAny (model prog w) A (eval iter env) (SrcTT prog w A h₀ L m env ct elt x scope cl Q) E s)
    (hs : ∀ x, foldedSetIterable iter env x = pure x := by intro _; rfl) :
    wpAny (model prog w) A (eval (.ListComp elt [⟨.Name x px, iter, [ct], 0⟩] scope pos) env) Q E s := by
  rw [eval_ListComp]
  refine wpAny_comprehension_free (use := none) rfl hs hclos hkind hnames (wpAny_mono h (fun xv s₁ h₁ => ?_) fun _ _ e => e)
  obtain ⟨ax, its, news, rfl, hh, F, N, S, hsz, R⟩ := h₁
  have ht := S.at N
  have hlt : ax < s₁.heap.objs.size := Heap.lt_size (N _ S).1
  refine wpAny_pyIter_tuple ht ?_
  have up : ∀ b o, s₁.heap.get? b = some o → (s₁.heap.push { cls := .type "tuple_iterator", data := .fields #[.ref ax, .int 0 0] }).get? b = some o := fun b o e => Heap.get?_push_of_some _ e
  refine LCt.block_T (walksTup hh s₁.heap.objs.size ax (Nat.ne_of_lt hlt) its) (by rw [sizeLine_eq]; omega) (fun i h st => by obtain ⟨o, e, _⟩ := st.1; exact ⟨o, e⟩) tup_st hcell hkind hx
    ⟨⟨_, Heap.get?_push_size _ rfl, rfl, rfl⟩, ⟨_, up _ _ (N _ S).1, rfl, _, rfl⟩⟩ (fun b hb => ?_) (F.keeps up) (N.grown up) (Nat.ne_of_lt F.ns.lt) (next_is_new F) (fun p hp => Nat.ne_of_lt (Heap.lt_size (N p hp).1)) S (R _) ?_
  · show b < (s₁.heap.push _).objs.size
    rw [Heap.size_push]
    rcases List.mem_cons.mp hb with rfl | hb
    · exact Nat.lt_succ_self _
    · rw [List.mem_singleton.mp hb]; exact Nat.lt_succ_of_lt hlt
  · intro D C h tk m' ys news' F' N' o1 hn hC₀ _ hCL _ hCD offC fin
    refine ⟨m', hn, fun h'' hs'' => fin D h'' tk (F'.change hs'' hCL hC₀) (fun p hp => ⟨hs''.extBut _ _ ?_ (N' p hp).1, (N' p hp).2⟩) o1⟩
    rcases List.mem_cons.mp hp with rfl | hp
    · exact Ne.symm hCD
    · exact offC p hp

theorem ListComp_tupU {elt iter : PySem.Expr} {x : Str} {px : Pos} {scope : Scope} {cl : List (Str × Addr)} {pos : Pos} {Q : Value → Shared → Prop} (_F₀ : Fr h₀ L s.heap m)
    (hclos : closureFor scope env = pure cl) (hcell : ∀ y ∈ scope.names, y.2 ≠ .cell) (hkind : scope.kind = .function)
    (hnames : ∀ y ∈ scope.names, y.2 = .local → scope.names.lookup y.1 = some .local) (hx : scope.names.lookup x = some .local)
    (h : wpAny (model prog w) A (eval iter env) (SrcTU prog w A h₀ L m env elt x scope cl (fun s₂ => LCg.FinE h₀ L m s₂ Q)) E s)
    (hs : ∀ x, foldedSetIterable iter env x = pure x := by intro _; rfl) :
    wpAny (model prog w) A (eval (.ListComp elt [⟨.Name x px, iter, [], 0⟩] scope pos) env) Q E s := by
  rw [eval_ListComp]
  refine wpAny_comprehension_free (use := none) rfl hs hclos hkind hnames (wpAny_mono h (fun xv s₁ h₁ => ?_) fun _ _ e => e)
  obtain ⟨ax, its, news, rfl, hh, F, N, S, hsz, R⟩ := h₁
  have ht := S.at N
  have hlt : ax < s₁.heap.objs.size := Heap.lt_size (N _ S).1
  refine wpAny_pyIter_tuple ht ?_
  have up : ∀ b o, s₁.heap.get? b = some o → (s₁.heap.push { cls := .type "tuple_iterator", data := .fields #[.ref ax, .int 0 0] }).get? b = some o := fun b o e => Heap.get?_push_of_some _ e
  refine LCg.block_U (walksTup hh s₁.heap.objs.size ax (Nat.ne_of_lt hlt) its) (by rw [sizeLine_eq]; omega) (fun i h st => by obtain ⟨o, e, _⟩ := st.1; exact ⟨o, e⟩) tup_st hcell hkind hx
    ⟨⟨_, Heap.get?_push_size _ rfl, rfl, rfl⟩, ⟨_, up _ _ (N _ S).1, rfl, _, rfl⟩⟩ (fun b hb => ?_) (F.keeps up) (N.grown up) (Nat.ne_of_lt F.ns.lt) (next_is_new F) (fun p hp => Nat.ne_of_lt (Heap.lt_size (N p hp).1)) S (R _) ?_
  · show b < (s₁.heap.push _).objs.size
    rw [Heap.size_push]
    rcases List.mem_cons.mp hb with rfl | hb
    · exact Nat.lt_succ_self _
    · rw [List.mem_singleton.mp hb]; exact Nat.lt_succ_of_lt hlt
  · intro D C h tk m' ys news' F' N' o1 hn hC₀ _ hCL _ hCD offC fin
    refine ⟨m', hn, fun h'' hs'' => fin D h'' tk (F'.change hs'' hCL hC₀) (fun p hp => ⟨hs''.extBut _ _ ?_ (N' p hp).1, (N' p hp).2⟩) o1⟩
    rcases List.mem_cons.mp hp with rfl | hp
    · exact Ne.symm hCD
    · exact offC p hp

theorem Assign_tupU {elt iter : PySem.Expr} {x y : Str} {px py : Pos} {scope : Scope} {cl : List (Str × Addr)} {pos spos : Pos} {Q : Flow → Shared → Prop} (_F₀ : Fr h₀ L s.heap m) (hLe : env.locals = L)
    (hsw : swapsWith (.ListComp elt [⟨.Name x px, iter, [], 0⟩] scope pos) (some (.Name y py)) spos.line env = pure true)
    (hclos : closureFor scope env = pure cl) (hcell : ∀ z ∈ scope.names, z.2 ≠ .cell) (hkind : scope.kind = .function)
    (hnames : ∀ z ∈ scope.names, z.2 = .local → scope.names.lookup z.1 = some .local) (hx : scope.names.lookup x = some .local)
    (hy : env.kindOf y = some .local) (hp : (env.scope.kind == .class || (env.scope.kind == .module && env.locals != env.globals)) = false)
    (h : wpAny (model prog w) A (eval iter env) (SrcTU prog w A h₀ L m env elt x scope cl (fun s₂ => LCg.FinA h₀ L m s₂ y Q)) E s)
    (hs : ∀ x, foldedSetIterable iter env x = pure x := by intro _; rfl) :
    wpAny (model prog w) A (exec (.Assign [.Name y py] (.ListComp elt [⟨.Name x px, iter, [], 0⟩] scope pos) spos) env) Q E s := by
  subst hLe
  rw [exec_Assign_Name_used _ _ _ _ hsw]
  refine wpAny_bind (wpAny_standAt (wpAny_bind ?_))
  show wpAny _ A (do let _ ← comprehension (.ListComp elt [⟨.Name x px, iter, [], 0⟩] scope pos) scope env _ (newList []) false (eval iter env) (some (assign (.Name y py) env))) _ _ s
  refine wpAny_bind (wpAny_mono (wpAny_comprehension_free (use := some (assign (.Name y py) env)) (Q := fun _ s' => Q .next s') rfl hs hclos hkind hnames
    (wpAny_mono h (fun xv s₁ h₁ => ?_) fun _ _ e => e)) (fun _ s' hq => wpAny_pure (wpAny_pure hq)) fun _ _ e => e)
  obtain ⟨ax, its, news, rfl, hh, F, N, S, hsz, R⟩ := h₁
  have ht := S.at N
  have hlt : ax < s₁.heap.objs.size := Heap.lt_size (N _ S).1
  refine wpAny_pyIter_tuple ht ?_
  have up : ∀ b o, s₁.heap.get? b = some o → (s₁.heap.push { cls := .type "tuple_iterator", data := .fields #[.ref ax, .int 0 0] }).get? b = some o := fun b o e => Heap.get?_push_of_some _ e
  refine LCg.block_U (walksTup hh s₁.heap.objs.size ax (Nat.ne_of_lt hlt) its) (by rw [sizeLine_eq]; omega) (fun i h st => by obtain ⟨o, e, _⟩ := st.1; exact ⟨o, e⟩) tup_st hcell hkind hx
    ⟨⟨_, Heap.get?_push_size _ rfl, rfl, rfl⟩, ⟨_, up _ _ (N _ S).1, rfl, _, rfl⟩⟩ (fun b hb => ?_) (F.keeps up) (N.grown up) (Nat.ne_of_lt F.ns.lt) (next_is_new F) (fun p hp => Nat.ne_of_lt (Heap.lt_size (N p hp).1)) S (R _) ?_
  · show b < (s₁.heap.push _).objs.size
    rw [Heap.size_push]
    rcases List.mem_cons.mp hb with rfl | hb
    · exact Nat.lt_succ_self _
    · rw [List.mem_singleton.mp hb]; exact Nat.lt_succ_of_lt hlt
  · intro D C h' tk m' ys news' F' N' o1 hn hC₀ _ hCL _ hCD offC fin
    show wpAny _ A (assign (.Name y py) env (.ref D)) _ _ _
    refine wpAny_assign_Name (wpAny_storeName_local hy F'.ns (fun h₂ hn₂ hs₂ => ?_) hp)
    have hL₀ : h₀.get? env.locals = none := Heap.get?_none_of_le F'.above
    have F₂ : Fr h₀ env.locals h₂ (fun z => if z = y then some (.ref D) else m z) := ⟨hn₂, fun b o e => hs₂.extBut b o (fun q => by rw [q, hL₀] at e; cases e) (F'.keep b o e), F'.above⟩
    refine ⟨m', hn.sameBut hs₂ hCL, fun h'' hs'' => fin D h'' _ (F₂.change hs'' hCL hC₀) (fun p hp => ?_) o1⟩
    have z : h₂.get? p.1 = some p.2 := hs₂.extBut _ _ (N' p hp).2.1 (N' p hp).1
    refine ⟨hs''.extBut _ _ ?_ z, (N' p hp).2⟩
    rcases List.mem_cons.mp hp with rfl | hp
    · exact Ne.symm hCD
    · exact offC p hp

/-- [x for x in .. if x is not None] over a tuple of the ledger -/
theorem filt_srcT {x : Str} {p1 p2 p3 p4 : Pos} {kk : Nat} {scope : Scope} {cl : List (Str × Addr)} {s₁ : Shared} {Q : Value → Shared → Prop}
    {its : List Value} {ax : Addr} {news : Led} (hh : A.handled = none) (F : Fr h₀ L s₁.heap m) (N : News h₀ L s₁.heap news) (hm : (ax, tup its) ∈ news) (hsz : its.length ≤ 1000)
    (hk : ∀ C, (compEnvC scope cl C env).scope.kind = .function) (hl : ∀ C, (compEnvC scope cl C env).kindOf x = some .local) (hd : (x == ("__debug__" : Str)) = false)
    (fin : ∀ g, LCg.FinE h₀ L m { s₁ with heap := g } Q (its.filter isSome) news) :
    SrcTT prog w A h₀ L m env (.Compare (.Name x p1) [.IsNot] [.Constant .none kk p2] p3) (.Name x p4) x scope cl Q (.ref ax) s₁ :=
  ⟨ax, its, news, rfl, hh, F, N, hm, hsz, fun g => filt_rest rfl (fun _ _ h => h) hm hk hl hd (fin g)⟩
end
end Mine
end

section
open PySem PySem.W PyProof.Rows PySem.Calls PySem.Spec
set_option maxRecDepth 100000
namespace Mine
theorem adj_ab (a b n : Nat) (h1 : a ≤ b) (h2 : b ≤ n) : Builtin.Slice.sliceAdjust (some (a : Int)) (some (b : Int)) 1 (n : Int) = ((a : Int), (b : Int)) := by
  have e0 : ¬ ((1 : Int) < 0) := by decide
  have e1 : ¬ ((a : Int) < 0) := by omega
  have e2 : ¬ ((b : Int) < 0) := by omega
  simp only [Builtin.Slice.sliceAdjust, e0, e1, e2, if_false, Prod.mk.injEq]
  omega
theorem plc_ab (a b : Nat) (h1 : a ≤ b) : Builtin.Slice.slicePlaces (a : Int) (b : Int) 1 = b - a := by
  have e : (1 : Int) > 0 := by decide
  simp only [Builtin.Slice.slicePlaces, e, if_true, Int.ediv_one]
  by_cases h : (a : Int) < (b : Int)
  · rw [if_pos h]; omega
  · rw [if_neg h]; omega
section
variable {prog : Program} {w : World} {A : Around} {E : Value → Shared → Prop} {s : Shared} {h₀ : Heap} {L : Addr} {m : Str → Option Value} {news : Led}
theorem applied_ab {sl : Addr} {a b n : Nat} {u v : Tok} {Q : Int × Int × Nat → Shared → Prop} (hs : s.heap.IsSliceOf sl (.int a u) (.int b v) .none) (h1 : a ≤ b) (h2 : b ≤ n) (h : Q ((a : Int), 1, b - a) s) :
    wpAny (model prog w) A (Builtin.Slice.sliceApplied (.ref sl) (pure (n : Int))) Q E s := by
  obtain ⟨os, hos, hcs, hds⟩ := id hs
  unfold Builtin.Slice.sliceApplied Builtin.Slice.sliceFields
  refine wpAny_bind (wpAny_bind (wpAny_field hos hds (x := .int a u) rfl (wpAny_bind (wpAny_field hos hds (x := .int b v) rfl (wpAny_bind (wpAny_field hos hds (x := .none) rfl (wpAny_pure ?_)))))))
  refine wpAny_bind (slicePart_none ?_)
  show wpAny _ _ (if ((1 : Int) == 0) = true then _ else _) _ _ s
  rw [if_neg (by decide)]
  refine wpAny_bind (slicePart_int (wpAny_bind (slicePart_int (wpAny_bind (wpAny_pure ?_)))))
  show wpAny _ _ (match Builtin.Slice.sliceAdjust (some (a : Int)) (some (b : Int)) 1 (n : Int) with | (lo, hi) => pure (lo, (1 : Int), Builtin.Slice.slicePlaces lo hi 1)) _ _ s
  rw [adj_ab a b n h1 h2]
  show wpAny _ _ (pure ((a : Int), (1 : Int), Builtin.Slice.slicePlaces (a : Int) (b : Int) 1)) _ _ s
  rw [plc_ab a b h1]
  exact wpAny_pure h
theorem getItem_ab {t sl : Addr} {its : List Value} {a b : Nat} {u v : Tok} {Q : Value → Shared → Prop} (ht : IsTup s.heap t its.toArray) (hs : s.heap.IsSliceOf sl (.int a u) (.int b v) .none) (h0 : 1 ≤ a) (h1 : a ≤ b) (h2 : b ≤ its.length) (hz : its.length ≤ 1000)
    (h : Q (.ref s.heap.objs.size) { s with heap := s.heap.push (tup ((List.range (b - a)).filterMap fun (k : Nat) => its[a + k]?)) }) : wpAny (model prog w) A (getItem (.ref t) (.ref sl)) Q E s := by
  have hok : sizeOk (.seq ((List.range (b - a)).filterMap fun (k : Nat) => its[a + k]?).toArray) := by
    show ((List.range (b - a)).filterMap fun (k : Nat) => its[a + k]?).toArray.size ≤ sizeLine
    rw [List.size_toArray, sizeLine_eq]
    have := List.length_filterMap_le (fun (k : Nat) => its[a + k]?) (List.range (b - a))
    rw [List.length_range] at this
    omega
  obtain ⟨os, hos, hcs, hds⟩ := id hs
  have hTs : s.TypeIs (.ref sl) "slice" := ⟨os, hos, hcs⟩
  unfold getItem
  try with_reducible refine wpAny_holding ?_
  first | refine wpAny_bind (wpAny_pure ?_) | skip
  refine wpAny_bind (wpAny_sequenceKey ht.typeIs (by decide) ?_)
  refine wpAny_bind (wpAny_callSpecial?_slot (name := Str.ofString "__getitem__") ht.typeIs slot_tuple_getitem
    (wpAny_call_entry slot_tuple_getitem ht.typeIs PyProof.Rows.entry_tuple_getitem ?_ (args_tuple_getitem _ _)))
  show wpAny _ _ (Builtin.Tuple.tupleItemsOf (.ref t) >>= _) _ _ s
  refine wpAny_bind (tupleItemsOf_ ht ?_)
  refine wpAny_bind (wpAny_typeOf hTs ?_)
  rw [if_pos (by decide)]
  refine wpAny_bind ?_
  rw [List.size_toArray]
  refine applied_ab hs h1 h2 ?_
  have hno : ¬ (((a : Int) == 0 && (1 : Int) == 1 && (b - a) == its.length) = true) := by
    have : ((a : Int) == 0) = false := by rw [beq_eq_false_iff_ne]; omega
    rw [this]; simp
  show wpAny _ _ (if ((a : Int) == 0 && (1 : Int) == 1 && (b - a) == its.length) = true then _ else _) _ _ s
  rw [if_neg hno]
  have e : (fun (k : Nat) => its.toArray[((a : Int) + (k : Int) * 1).toNat]?) = fun k => its[a + k]? := by
    funext k
    have : ((a : Int) + (k : Int) * 1).toNat = a + k := by omega
    rw [this, List.getElem?_toArray]
  rw [e]
  first
    | exact wpAny_bind (m := Builtin.Tuple.tupleExact _) (wpAny_newObj_type (wpAny_pure ⟨_, rfl, wpAny_pure h⟩) hok)
    | exact wpAny_bind (m := Builtin.Tuple.tupleExact _) (wpAny_newObj_type (wpAny_bind (wpAny_pure (wpAny_pure ⟨_, rfl, wpAny_pure h⟩))) hok)
    | exact wpAny_bind (wpAny_bind (m := Builtin.Tuple.tupleExact _) (wpAny_newObj_type (wpAny_pure (wpAny_pure ⟨_, rfl, wpAny_pure h⟩)) hok))
    | exact wpAny_bind (wpAny_bind (m := Builtin.Tuple.tupleExact _) (wpAny_newObj_type (wpAny_pure ⟨_, rfl, wpAny_pure h⟩) hok))

/-- s[a:b] of a tuple of the ledger -/
theorem my_slice {value slice : PySem.Expr} {t : Addr} {its : List Value} {a b : Nat} {u v : Tok} {Q : Value → Shared → Prop}
    (F : Fr h₀ L s.heap m) (N : News h₀ L s.heap news) (hm : (t, tup its) ∈ news) (h0 : 1 ≤ a) (h1 : a ≤ b) (h2 : b ≤ its.length) (hz : its.length ≤ 1000)
    (h : ∀ D h', Fr h₀ L h' m → News h₀ L h' ((D, tup ((List.range (b - a)).filterMap fun (k : Nat) => its[a + k]?)) :: news) → (∀ p ∈ news, p.1 < D) → Q (.ref D) { s with heap := h' })
    (hs : subscripted slice false (.ref t) (.ref s.heap.objs.size) = operate [.ref s.heap.objs.size, .ref t] (getItem (.ref t) (.ref s.heap.objs.size)) := by with_unfolding_all rfl)
    (hg : ∀ r, letTemporaryGo value (.ref t) r = pure () := by intro _; with_unfolding_all rfl) :
    wpAny (model prog w) A (subscriptTail value slice (.ref t) (.ref s.heap.objs.size)) Q E { s with heap := s.heap.push { cls := .type "slice", data := .fields #[.int a u, .int b v, .none] } } := by
  have ht : IsTup s.heap t its.toArray := ⟨_, (N _ hm).1, rfl, _, rfl⟩
  have ht' : IsTup (s.heap.push { cls := .type "slice", data := .fields #[.int a u, .int b v, .none] }) t its.toArray := ht.keeps fun _ _ e => Heap.get?_push_of_some _ e
  refine subscriptTail_ops (s := { s with heap := s.heap.push { cls := .type "slice", data := .fields #[.int a u, .int b v, .none] } }) ht'.typeIs slot_tuple_getitem.lookup
    (getItem_ab ht' (Heap.IsSliceOf.new ..) h0 h1 h2 hz ?_) hs hg
  have N1 := News.push (F.push { cls := .type "slice", data := .fields #[.int a u, .int b v, .none] }) (N.grown fun _ _ e => Heap.get?_push_of_some _ e) (tup ((List.range (b - a)).filterMap fun (k : Nat) => its[a + k]?))
  rw [Heap.size_push] at N1
  show Q (.ref (s.heap.push _).objs.size) _
  rw [Heap.size_push]
  exact h _ _ ((F.push _).push _) N1 fun p hp => Nat.lt_succ_of_lt (Heap.lt_size (N p hp).1)

/-- an item of a tuple of the ledger -/
theorem my_tup {value slice : PySem.Expr} {t : Addr} {its : List Value} {k : Int} {u : Tok} {v : Value} {Q : Value → Shared → Prop} (N : News h₀ L s.heap news) (hm : (t, tup its) ∈ news) (h0 : 0 ≤ k) (h1 : k < 2 ^ 63) (hx : its[k.toNat]? = some v) (h : Q v s)
    (hs : subscripted slice false (.ref t) (.int k u) = operate [.ref t, .int k u] (getItem (.ref t) (.int k u)) := by with_unfolding_all rfl) :
    wpAny (model prog w) A (subscriptTail value slice (.ref t) (.int k u)) Q E s := by
  have hl := (List.getElem?_eq_some_iff.mp hx).1
  refine item_tupleT (j := k.toNat) ⟨_, (N _ hm).1, rfl, _, rfl⟩ (by omega) h1 ?_ hx h hs
  unfold seqIndex?
  simp only [Int.not_lt.mpr h0, if_false]
  rw [if_pos (by simp only [Bool.and_eq_true, decide_eq_true_eq]; omega)]
end
end Mine
end

section
open PySem PySem.W PyProof.Rows PySem.Calls PySem.Spec
set_option maxRecDepth 100000
namespace Mine
/-- what inner_statements gives upon the node a -/
noncomputable def InnerAt (prog : Program) (w : World) (mean : ExcName → Option Value) (mg mb : Str → Option Value) (a : Addr) (us : List Value) (news : Led) : Prop :=
  Gives prog w mean mg mb 80 [.ref a] news 5 200 (fun r news' => ∃ D, r = .ref D ∧ (∀ p ∈ news, p.1 ≠ D) ∧ news' = (D, LCg.lst (us.filter isSome)) :: news)
section
set_option maxHeartbeats 4000000 in
theorem inner_k0 (prog : Program) (w : World) (mean : ExcName → Option Value) (mg mb : Str → Option Value) {news : Led} {a b c e q r : Addr} {vs : List Value} {v v1 v2 sh : Value} {x : Int} {t1 t2 : Tok} (h : (a, tup [.str (Str.ofString "set") t1, .int x t2, .ref b, .ref c, .none]) ∈ news) : InnerAt prog w mean mg mb a [] news := by
  w_top off
  k_with_none
  (k_with "nepick" => (first | (refine Nat.ne_of_lt ?_; first | exact Mine.pl_0 (by with_reducible assumption) | exact Mine.pl_1 (by with_reducible assumption) | exact Mine.pl_2 (by with_reducible assumption) | exact Mine.pl_3 (by with_reducible assumption) | exact Mine.pl_4 (by with_reducible assumption) | exact Mine.pl_5 (by with_reducible assumption) | exact Mine.pl_6 (by with_reducible assumption) | exact Mine.pl_7 (by with_reducible assumption) | exact Mine.pl_8 (by with_reducible assumption) | exact Mine.pl_9 (by with_reducible assumption) | exact Mine.pl_10 (by with_reducible assumption) | exact Mine.pl_11 (by with_reducible assumption) | exact Mine.pl_12 (by with_reducible assumption) | exact Mine.pl_13 (by with_reducible assumption) | exact Mine.pl_14 (by with_reducible assumption) | exact Mine.pl_15 (by with_reducible assumption) | exact Mine.pl_16 (by with_reducible assumption) | (refine Nat.lt_succ_of_lt ?_; first | exact Mine.pl_0 (by with_reducible assumption) | exact Mine.pl_1 (by with_reducible assumption) | exact Mine.pl_2 (by with_reducible assumption) | (refine Nat.lt_succ_of_lt ?_; first | exact Mine.pl_0 (by with_reducible assumption) | exact Mine.pl_1 (by with_reducible assumption) | exact Mine.pl_2 (by with_reducible assumption) | (refine Nat.lt_succ_of_lt ?_; first | exact Mine.pl_0 (by with_reducible assumption) | exact Mine.pl_1 (by with_reducible assumption) | exact Mine.pl_2 (by with_reducible assumption) | (refine Nat.lt_succ_of_lt ?_; first | exact Mine.pl_0 (by with_reducible assumption) | exact Mine.pl_1 (by with_reducible assumption) | exact Mine.pl_2 (by with_reducible assumption) | (refine Nat.lt_succ_of_lt ?_; first | exact Mine.pl_0 (by with_reducible assumption) | exact Mine.pl_1 (by with_reducible assumption) | exact Mine.pl_2 (by with_reducible assumption))))))) | (refine Ne.symm (Nat.ne_of_lt ?_); first | exact Mine.pl_0 (by with_reducible assumption) | exact Mine.pl_1 (by with_reducible assumption) | exact Mine.pl_2 (by with_reducible assumption) | exact Mine.pl_3 (by with_reducible assumption) | exact Mine.pl_4 (by with_reducible assumption) | exact Mine.pl_5 (by with_reducible assumption) | exact Mine.pl_6 (by with_reducible assumption) | exact Mine.pl_7 (by with_reducible assumption) | exact Mine.pl_8 (by with_reducible assumption) | exact Mine.pl_9 (by with_reducible assumption) | exact Mine.pl_10 (by with_reducible assumption) | exact Mine.pl_11 (by with_reducible assumption) | exact Mine.pl_12 (by with_reducible assumption) | exact Mine.pl_13 (by with_reducible assumption) | exact Mine.pl_14 (by with_reducible assumption) | exact Mine.pl_15 (by with_reducible assumption) | exact Mine.pl_16 (by with_reducible assumption))))
  (k_with "@units_room" => (have hcL' := cLine_is; simp only [units_in1, units_deeper, Around.mark_units]; dsimp only [ktrTop]; omega))
  (k_with "@k_all" => assumption)
  (k_with "@k_ne" => (refine neN ?_; (try dsimp only); first | with_reducible assumption | (refine Ne.symm ?_; with_reducible assumption) | k_extra "nepick"))
  (k_with "@k_mem" => (refine List.mem_cons_of_mem _ ?_; k_mem))
  (k_with "subscriptTail" => (k_here; (with_reducible show wpAny _ _ (subscriptTail _ _ (Value.ref _) (Value.int _ _)) _ _ _); k_dflt (refine' my_tup (by k_asm) (by k_mem) (by decide) (by decide) ?hxZq ?_; (case hxZq => exact rfl)); (try dsimp only)))
  (k_with "subscriptTail" => (k_here; (with_reducible show wpAny _ _ (subscriptTail _ (PySem.Expr.Slice _ _ _ _) (Value.ref _) (Value.ref _)) _ _ _); k_dflt (refine' my_slice (a := _) (b := _) ?FZq ?NZq ?mZq (Nat.le_of_ble_eq_true rfl) (Nat.le_of_ble_eq_true rfl) ?leZq ?zZq ?_; (case FZq => k_asm); (case NZq => k_asm); (case mZq => k_mem); (case leZq => exact Nat.le_of_ble_eq_true rfl); (case zZq => exact Nat.le_of_ble_eq_true rfl)); intro _ _ _ _ l1Zq; (try k_lt l1Zq); (try dsimp only)))
  (k_with "eval ListComp" => (k_here; k_dflt (refine ListComp_tupT (by k_asm) (by with_unfolding_all rfl) (by decide) (by rfl) (by decide) (by rfl) ?_)))
  (k_with "SrcTT" => (k_here; k_dflt (refine' filt_srcT ?k1Zq ?k2Zq ?k3Zq ?k4Zq ?k5Zq ?k6Zq ?k7Zq ?k8Zq ?_; (case k1Zq => rfl); (case k2Zq => k_asm); (case k3Zq => k_asm); (case k4Zq => k_mem); (case k5Zq => first | omega | (simp only [List.length_cons, List.length_nil]; omega) | exact Nat.le_of_ble_eq_true rfl); (case k6Zq => (intro _; rfl)); (case k7Zq => (intro _; rfl)); (case k8Zq => rfl)); intro _; unfold LCg.FinE; intro _ _ _ _ _ _; (try dsimp only)))
  unfold InnerAt Gives
  intro dp un gd cn cs a₉ ccd cl outer A₀ base h₀ L m s Q E B F X N T hk hd hu hret
  refine wpAny_call ?_
  k_dflt ktr_enter
  rename Fr _ _ _ (fun y => List.lookup y _) => F9
  replace F9 : Fr _ _ _ (fun y => ([(Str.ofString "s", .ref a)] : List (Str × Value)).lookup y) := F9
  k_steps
  rename News h₀ L _ _ => kN9
  rename Fr h₀ L _ _ => kF9
  rename LCg.Off1 _ _ => o9
  exact hret _ _ _ _ kF9 (newsSub kN9 fun p hp => (List.mem_cons.mp hp).elim (fun e => e ▸ .head _) fun hp => .tail _ (by repeat' (first | exact hp | apply List.Mem.tail))) ⟨_, rfl, fun p hp => off1_mem o9 p (by repeat' (first | exact hp | apply List.Mem.tail)), rfl⟩
set_option maxHeartbeats 4000000 in
theorem inner_k1 (prog : Program) (w : World) (mean : ExcName → Option Value) (mg mb : Str → Option Value) {news : Led} {a b c e q r : Addr} {vs : List Value} {v v1 v2 sh : Value} {x : Int} {t1 t2 : Tok} (h : (a, tup [.str (Str.ofString "nba") t1, .int x t2, .ref b, .ref c, .none]) ∈ news) : InnerAt prog w mean mg mb a [] news := by
  w_top off
  k_with_none
  (k_with "nepick" => (first | (refine Nat.ne_of_lt ?_; first | exact Mine.pl_0 (by with_reducible assumption) | exact Mine.pl_1 (by with_reducible assumption) | exact Mine.pl_2 (by with_reducible assumption) | exact Mine.pl_3 (by with_reducible assumption) | exact Mine.pl_4 (by with_reducible assumption) | exact Mine.pl_5 (by with_reducible assumption) | exact Mine.pl_6 (by with_reducible assumption) | exact Mine.pl_7 (by with_reducible assumption) | exact Mine.pl_8 (by with_reducible assumption) | exact Mine.pl_9 (by with_reducible assumption) | exact Mine.pl_10 (by with_reducible assumption) | exact Mine.pl_11 (by with_reducible assumption) | exact Mine.pl_12 (by with_reducible assumption) | exact Mine.pl_13 (by with_reducible assumption) | exact Mine.pl_14 (by with_reducible assumption) | exact Mine.pl_15 (by with_reducible assumption) | exact Mine.pl_16 (by with_reducible assumption) | (refine Nat.lt_succ_of_lt ?_; first | exact Mine.pl_0 (by with_reducible assumption) | exact Mine.pl_1 (by with_reducible assumption) | exact Mine.pl_2 (by with_reducible assumption) | (refine Nat.lt_succ_of_lt ?_; first | exact Mine.pl_0 (by with_reducible assumption) | exact Mine.pl_1 (by with_reducible assumption) | exact Mine.pl_2 (by with_reducible assumption) | (refine Nat.lt_succ_of_lt ?_; first | exact Mine.pl_0 (by with_reducible assumption) | exact Mine.pl_1 (by with_reducible assumption) | exact Mine.pl_2 (by with_reducible assumption) | (refine Nat.lt_succ_of_lt ?_; first | exact Mine.pl_0 (by with_reducible assumption) | exact Mine.pl_1 (by with_reducible assumption) | exact Mine.pl_2 (by with_reducible assumption) | (refine Nat.lt_succ_of_lt ?_; first | exact Mine.pl_0 (by with_reducible assumption) | exact Mine.pl_1 (by with_reducible assumption) | exact Mine.pl_2 (by with_reducible assumption))))))) | (refine Ne.symm (Nat.ne_of_lt ?_); first | exact Mine.pl_0 (by with_reducible assumption) | exact Mine.pl_1 (by with_reducible assumption) | exact Mine.pl_2 (by with_reducible assumption) | exact Mine.pl_3 (by with_reducible assumption) | exact Mine.pl_4 (by with_reducible assumption) | exact Mine.pl_5 (by with_reducible assumption) | exact Mine.pl_6 (by with_reducible assumption) | exact Mine.pl_7 (by with_reducible assumption) | exact Mine.pl_8 (by with_reducible assumption) | exact Mine.pl_9 (by with_reducible assumption) | exact Mine.pl_10 (by with_reducible assumption) | exact Mine.pl_11 (by with_reducible assumption) | exact Mine.pl_12 (by with_reducible assumption) | exact Mine.pl_13 (by with_reducible assumption) | exact Mine.pl_14 (by with_reducible assumption) | exact Mine.pl_15 (by with_reducible assumption) | exact Mine.pl_16 (by with_reducible assumption))))
  (k_with "@units_room" => (have hcL' := cLine_is; simp only [units_in1, units_deeper, Around.mark_units]; dsimp only [ktrTop]; omega))
  (k_with "@k_all" => assumption)
  (k_with "@k_ne" => (refine neN ?_; (try dsimp only); first | with_reducible assumption | (refine Ne.symm ?_; with_reducible assumption) | k_extra "nepick"))
  (k_with "@k_mem" => (refine List.mem_cons_of_mem _ ?_; k_mem))
  (k_with "subscriptTail" => (k_here; (with_reducible show wpAny _ _ (subscriptTail _ _ (Value.ref _) (Value.int _ _)) _ _ _); k_dflt (refine' my_tup (by k_asm) (by k_mem) (by decide) (by decide) ?hxZq ?_; (case hxZq => exact rfl)); (try dsimp only)))
  (k_with "subscriptTail" => (k_here; (with_reducible show wpAny _ _ (subscriptTail _ (PySem.Expr.Slice _ _ _ _) (Value.ref _) (Value.ref _)) _ _ _); k_dflt (refine' my_slice (a := _) (b := _) ?FZq ?NZq ?mZq (Nat.le_of_ble_eq_true rfl) (Nat.le_of_ble_eq_true rfl) ?leZq ?zZq ?_; (case FZq => k_asm); (case NZq => k_asm); (case mZq => k_mem); (case leZq => exact Nat.le_of_ble_eq_true rfl); (case zZq => exact Nat.le_of_ble_eq_true rfl)); intro _ _ _ _ l1Zq; (try k_lt l1Zq); (try dsimp only)))
  (k_with "eval ListComp" => (k_here; k_dflt (refine ListComp_tupT (by k_asm) (by with_unfolding_all rfl) (by decide) (by rfl) (by decide) (by rfl) ?_)))
  (k_with "SrcTT" => (k_here; k_dflt (refine' filt_srcT ?k1Zq ?k2Zq ?k3Zq ?k4Zq ?k5Zq ?k6Zq ?k7Zq ?k8Zq ?_; (case k1Zq => rfl); (case k2Zq => k_asm); (case k3Zq => k_asm); (case k4Zq => k_mem); (case k5Zq => first | omega | (simp only [List.length_cons, List.length_nil]; omega) | exact Nat.le_of_ble_eq_true rfl); (case k6Zq => (intro _; rfl)); (case k7Zq => (intro _; rfl)); (case k8Zq => rfl)); intro _; unfold LCg.FinE; intro _ _ _ _ _ _; (try dsimp only)))
  unfold InnerAt Gives
  intro dp un gd cn cs a₉ ccd cl outer A₀ base h₀ L m s Q E B F X N T hk hd hu hret
  refine wpAny_call ?_
  k_dflt ktr_enter
  rename Fr _ _ _ (fun y => List.lookup y _) => F9
  replace F9 : Fr _ _ _ (fun y => ([(Str.ofString "s", .ref a)] : List (Str × Value)).lookup y) := F9
  k_steps
  rename News h₀ L _ _ => kN9
  rename Fr h₀ L _ _ => kF9
  rename LCg.Off1 _ _ => o9
  exact hret _ _ _ _ kF9 (newsSub kN9 fun p hp => (List.mem_cons.mp hp).elim (fun e => e ▸ .head _) fun hp => .tail _ (by repeat' (first | exact hp | apply List.Mem.tail))) ⟨_, rfl, fun p hp => off1_mem o9 p (by repeat' (first | exact hp | apply List.Mem.tail)), rfl⟩
set_option maxHeartbeats 4000000 in
theorem inner_k2 (prog : Program) (w : World) (mean : ExcName → Option Value) (mg mb : Str → Option Value) {news : Led} {a b c e q r : Addr} {vs : List Value} {v v1 v2 sh : Value} {x : Int} {t1 t2 : Tok} (h : (a, tup [.str (Str.ofString "trigger") t1, .int x t2, .ref b, .ref c, .none]) ∈ news) : InnerAt prog w mean mg mb a [] news := by
  w_top off
  k_with_none
  (k_with "nepick" => (first | (refine Nat.ne_of_lt ?_; first | exact Mine.pl_0 (by with_reducible assumption) | exact Mine.pl_1 (by with_reducible assumption) | exact Mine.pl_2 (by with_reducible assumption) | exact Mine.pl_3 (by with_reducible assumption) | exact Mine.pl_4 (by with_reducible assumption) | exact Mine.pl_5 (by with_reducible assumption) | exact Mine.pl_6 (by with_reducible assumption) | exact Mine.pl_7 (by with_reducible assumption) | exact Mine.pl_8 (by with_reducible assumption) | exact Mine.pl_9 (by with_reducible assumption) | exact Mine.pl_10 (by with_reducible assumption) | exact Mine.pl_11 (by with_reducible assumption) | exact Mine.pl_12 (by with_reducible assumption) | exact Mine.pl_13 (by with_reducible assumption) | exact Mine.pl_14 (by with_reducible assumption) | exact Mine.pl_15 (by with_reducible assumption) | exact Mine.pl_16 (by with_reducible assumption) | (refine Nat.lt_succ_of_lt ?_; first | exact Mine.pl_0 (by with_reducible assumption) | exact Mine.pl_1 (by with_reducible assumption) | exact Mine.pl_2 (by with_reducible assumption) | (refine Nat.lt_succ_of_lt ?_; first | exact Mine.pl_0 (by with_reducible assumption) | exact Mine.pl_1 (by with_reducible assumption) | exact Mine.pl_2 (by with_reducible assumption) | (refine Nat.lt_succ_of_lt ?_; first | exact Mine.pl_0 (by with_reducible assumption) | exact Mine.pl_1 (by with_reducible assumption) | exact Mine.pl_2 (by with_reducible assumption) | (refine Nat.lt_succ_of_lt ?_; first | exact Mine.pl_0 (by with_reducible assumption) | exact Mine.pl_1 (by with_reducible assumption) | exact Mine.pl_2 (by with_reducible assumption) | (refine Nat.lt_succ_of_lt ?_; first | exact Mine.pl_0 (by with_reducible assumption) | exact Mine.pl_1 (by with_reducible assumption) | exact Mine.pl_2 (by with_reducible assumption))))))) | (refine Ne.symm (Nat.ne_of_lt ?_); first | exact Mine.pl_0 (by with_reducible assumption) | exact Mine.pl_1 (by with_reducible assumption) | exact Mine.pl_2 (by with_reducible assumption) | exact Mine.pl_3 (by with_reducible assumption) | exact Mine.pl_4 (by with_reducible assumption) | exact Mine.pl_5 (by with_reducible assumption) | exact Mine.pl_6 (by with_reducible assumption) | exact Mine.pl_7 (by with_reducible assumption) | exact Mine.pl_8 (by with_reducible assumption) | exact Mine.pl_9 (by with_reducible assumption) | exact Mine.pl_10 (by with_reducible assumption) | exact Mine.pl_11 (by with_reducible assumption) | exact Mine.pl_12 (by with_reducible assumption) | exact Mine.pl_13 (by with_reducible assumption) | exact Mine.pl_14 (by with_reducible assumption) | exact Mine.pl_15 (by with_reducible assumption) | exact Mine.pl_16 (by with_reducible assumption))))
  (k_with "@units_room" => (have hcL' := cLine_is; simp only [units_in1, units_deeper, Around.mark_units]; dsimp only [ktrTop]; omega))
  (k_with "@k_all" => assumption)
  (k_with "@k_ne" => (refine neN ?_; (try dsimp only); first | with_reducible assumption | (refine Ne.symm ?_; with_reducible assumption) | k_extra "nepick"))
  (k_with "@k_mem" => (refine List.mem_cons_of_mem _ ?_; k_mem))
  (k_with "subscriptTail" => (k_here; (with_reducible show wpAny _ _ (subscriptTail _ _ (Value.ref _) (Value.int _ _)) _ _ _); k_dflt (refine' my_tup (by k_asm) (by k_mem) (by decide) (by decide) ?hxZq ?_; (case hxZq => exact rfl)); (try dsimp only)))
  (k_with "subscriptTail" => (k_here; (with_reducible show wpAny _ _ (subscriptTail _ (PySem.Expr.Slice _ _ _ _) (Value.ref _) (Value.ref _)) _ _ _); k_dflt (refine' my_slice (a := _) (b := _) ?FZq ?NZq ?mZq (Nat.le_of_ble_eq_true rfl) (Nat.le_of_ble_eq_true rfl) ?leZq ?zZq ?_; (case FZq => k_asm); (case NZq => k_asm); (case mZq => k_mem); (case leZq => exact Nat.le_of_ble_eq_true rfl); (case zZq => exact Nat.le_of_ble_eq_true rfl)); intro _ _ _ _ l1Zq; (try k_lt l1Zq); (try dsimp only)))
  (k_with "eval ListComp" => (k_here; k_dflt (refine ListComp_tupT (by k_asm) (by with_unfolding_all rfl) (by decide) (by rfl) (by decide) (by rfl) ?_)))
  (k_with "SrcTT" => (k_here; k_dflt (refine' filt_srcT ?k1Zq ?k2Zq ?k3Zq ?k4Zq ?k5Zq ?k6Zq ?k7Zq ?k8Zq ?_; (case k1Zq => rfl); (case k2Zq => k_asm); (case k3Zq => k_asm); (case k4Zq => k_mem); (case k5Zq => first | omega | (simp only [List.length_cons, List.length_nil]; omega) | exact Nat.le_of_ble_eq_true rfl); (case k6Zq => (intro _; rfl)); (case k7Zq => (intro _; rfl)); (case k8Zq => rfl)); intro _; unfold LCg.FinE; intro _ _ _ _ _ _; (try dsimp only)))
  unfold InnerAt Gives
  intro dp un gd cn cs a₉ ccd cl outer A₀ base h₀ L m s Q E B F X N T hk hd hu hret
  refine wpAny_call ?_
  k_dflt ktr_enter
  rename Fr _ _ _ (fun y => List.lookup y _) => F9
  replace F9 : Fr _ _ _ (fun y => ([(Str.ofString "s", .ref a)] : List (Str × Value)).lookup y) := F9
  k_steps
  rename News h₀ L _ _ => kN9
  rename Fr h₀ L _ _ => kF9
  rename LCg.Off1 _ _ => o9
  exact hret _ _ _ _ kF9 (newsSub kN9 fun p hp => (List.mem_cons.mp hp).elim (fun e => e ▸ .head _) fun hp => .tail _ (by repeat' (first | exact hp | apply List.Mem.tail))) ⟨_, rfl, fun p hp => off1_mem o9 p (by repeat' (first | exact hp | apply List.Mem.tail)), rfl⟩
set_option maxHeartbeats 4000000 in
theorem inner_k3 (prog : Program) (w : World) (mean : ExcName → Option Value) (mg mb : Str → Option Value) {news : Led} {a b c e q r : Addr} {vs : List Value} {v v1 v2 sh : Value} {x : Int} {t1 t2 : Tok} (h : (a, tup [.str (Str.ofString "disable") t1, .int x t2, .ref b, .ref c, .none]) ∈ news) : InnerAt prog w mean mg mb a [] news := by
  w_top off
  k_with_none
  (k_with "nepick" => (first | (refine Nat.ne_of_lt ?_; first | exact Mine.pl_0 (by with_reducible assumption) | exact Mine.pl_1 (by with_reducible assumption) | exact Mine.pl_2 (by with_reducible assumption) | exact Mine.pl_3 (by with_reducible assumption) | exact Mine.pl_4 (by with_reducible assumption) | exact Mine.pl_5 (by with_reducible assumption) | exact Mine.pl_6 (by with_reducible assumption) | exact Mine.pl_7 (by with_reducible assumption) | exact Mine.pl_8 (by with_reducible assumption) | exact Mine.pl_9 (by with_reducible assumption) | exact Mine.pl_10 (by with_reducible assumption) | exact Mine.pl_11 (by with_reducible assumption) | exact Mine.pl_12 (by with_reducible assumption) | exact Mine.pl_13 (by with_reducible assumption) | exact Mine.pl_14 (by with_reducible assumption) | exact Mine.pl_15 (by with_reducible assumption) | exact Mine.pl_16 (by with_reducible assumption) | (refine Nat.lt_succ_of_lt ?_; first | exact Mine.pl_0 (by with_reducible assumption) | exact Mine.pl_1 (by with_reducible assumption) | exact Mine.pl_2 (by with_reducible assumption) | (refine Nat.lt_succ_of_lt ?_; first | exact Mine.pl_0 (by with_reducible assumption) | exact Mine.pl_1 (by with_reducible assumption) | exact Mine.pl_2 (by with_reducible assumption) | (refine Nat.lt_succ_of_lt ?_; first | exact Mine.pl_0 (by with_reducible assumption) | exact Mine.pl_1 (by with_reducible assumption) | exact Mine.pl_2 (by with_reducible assumption) | (refine Nat.lt_succ_of_lt ?_; first | exact Mine.pl_0 (by with_reducible assumption) | exact Mine.pl_1 (by with_reducible assumption) | exact Mine.pl_2 (by with_reducible assumption) | (refine Nat.lt_succ_of_lt ?_; first | exact Mine.pl_0 (by with_reducible assumption) | exact Mine.pl_1 (by with_reducible assumption) | exact Mine.pl_2 (by with_reducible assumption))))))) | (refine Ne.symm (Nat.ne_of_lt ?_); first | exact Mine.pl_0 (by with_reducible assumption) | exact Mine.pl_1 (by with_reducible assumption) | exact Mine.pl_2 (by with_reducible assumption) | exact Mine.pl_3 (by with_reducible assumption) | exact Mine.pl_4 (by with_reducible assumption) | exact Mine.pl_5 (by with_reducible assumption) | exact Mine.pl_6 (by with_reducible assumption) | exact Mine.pl_7 (by with_reducible assumption) | exact Mine.pl_8 (by with_reducible assumption) | exact Mine.pl_9 (by with_reducible assumption) | exact Mine.pl_10 (by with_reducible assumption) | exact Mine.pl_11 (by with_reducible assumption) | exact Mine.pl_12 (by with_reducible assumption) | exact Mine.pl_13 (by with_reducible assumption) | exact Mine.pl_14 (by with_reducible assumption) | exact Mine.pl_15 (by with_reducible assumption) | exact Mine.pl_16 (by with_reducible assumption))))
  (k_with "@units_room" => (have hcL' := cLine_is; simp only [units_in1, units_deeper, Around.mark_units]; dsimp only [ktrTop]; omega))
  (k_with "@k_all" => assumption)
  (k_with "@k_ne" => (refine neN ?_; (try dsimp only); first | with_reducible assumption | (refine Ne.symm ?_; with_reducible assumption) | k_extra "nepick"))
  (k_with "@k_mem" => (refine List.mem_cons_of_mem _ ?_; k_mem))
  (k_with "subscriptTail" => (k_here; (with_reducible show wpAny _ _ (subscriptTail _ _ (Value.ref _) (Value.int _ _)) _ _ _); k_dflt (refine' my_tup (by k_asm) (by k_mem) (by decide) (by decide) ?hxZq ?_; (case hxZq => exact rfl)); (try dsimp only)))
  (k_with "subscriptTail" => (k_here; (with_reducible show wpAny _ _ (subscriptTail _ (PySem.Expr.Slice _ _ _ _) (Value.ref _) (Value.ref _)) _ _ _); k_dflt (refine' my_slice (a := _) (b := _) ?FZq ?NZq ?mZq (Nat.le_of_ble_eq_true rfl) (Nat.le_of_ble_eq_true rfl) ?leZq ?zZq ?_; (case FZq => k_asm); (case NZq => k_asm); (case mZq => k_mem); (case leZq => exact Nat.le_of_ble_eq_true rfl); (case zZq => exact Nat.le_of_ble_eq_true rfl)); intro _ _ _ _ l1Zq; (try k_lt l1Zq); (try dsimp only)))
  (k_with "eval ListComp" => (k_here; k_dflt (refine ListComp_tupT (by k_asm) (by with_unfolding_all rfl) (by decide) (by rfl) (by decide) (by rfl) ?_)))
  (k_with "SrcTT" => (k_here; k_dflt (refine' filt_srcT ?k1Zq ?k2Zq ?k3Zq ?k4Zq ?k5Zq ?k6Zq ?k7Zq ?k8Zq ?_; (case k1Zq => rfl); (case k2Zq => k_asm); (case k3Zq => k_asm); (case k4Zq => k_mem); (case k5Zq => first | omega | (simp only [List.length_cons, List.length_nil]; omega) | exact Nat.le_of_ble_eq_true rfl); (case k6Zq => (intro _; rfl)); (case k7Zq => (intro _; rfl)); (case k8Zq => rfl)); intro _; unfold LCg.FinE; intro _ _ _ _ _ _; (try dsimp only)))
  unfold InnerAt Gives
  intro dp un gd cn cs a₉ ccd cl outer A₀ base h₀ L m s Q E B F X N T hk hd hu hret
  refine wpAny_call ?_
  k_dflt ktr_enter
  rename Fr _ _ _ (fun y => List.lookup y _) => F9
  replace F9 : Fr _ _ _ (fun y => ([(Str.ofString "s", .ref a)] : List (Str × Value)).lookup y) := F9
  k_steps
  rename News h₀ L _ _ => kN9
  rename Fr h₀ L _ _ => kF9
  rename LCg.Off1 _ _ => o9
  exact hret _ _ _ _ kF9 (newsSub kN9 fun p hp => (List.mem_cons.mp hp).elim (fun e => e ▸ .head _) fun hp => .tail _ (by repeat' (first | exact hp | apply List.Mem.tail))) ⟨_, rfl, fun p hp => off1_mem o9 p (by repeat' (first | exact hp | apply List.Mem.tail)), rfl⟩
set_option maxHeartbeats 4000000 in
theorem inner_k4 (prog : Program) (w : World) (mean : ExcName → Option Value) (mg mb : Str → Option Value) {news : Led} {a b c e q r : Addr} {vs : List Value} {v v1 v2 sh : Value} {x : Int} {t1 t2 : Tok} (h : (a, tup [.str (Str.ofString "sys") t1, .int x t2, .ref b, .ref c, .none]) ∈ news) : InnerAt prog w mean mg mb a [] news := by
  w_top off
  k_with_none
  (k_with "nepick" => (first | (refine Nat.ne_of_lt ?_; first | exact Mine.pl_0 (by with_reducible assumption) | exact Mine.pl_1 (by with_reducible assumption) | exact Mine.pl_2 (by with_reducible assumption) | exact Mine.pl_3 (by with_reducible assumption) | exact Mine.pl_4 (by with_reducible assumption) | exact Mine.pl_5 (by with_reducible assumption) | exact Mine.pl_6 (by with_reducible assumption) | exact Mine.pl_7 (by with_reducible assumption) | exact Mine.pl_8 (by with_reducible assumption) | exact Mine.pl_9 (by with_reducible assumption) | exact Mine.pl_10 (by with_reducible assumption) | exact Mine.pl_11 (by with_reducible assumption) | exact Mine.pl_12 (by with_reducible assumption) | exact Mine.pl_13 (by with_reducible assumption) | exact Mine.pl_14 (by with_reducible assumption) | exact Mine.pl_15 (by with_reducible assumption) | exact Mine.pl_16 (by with_reducible assumption) | (refine Nat.lt_succ_of_lt ?_; first | exact Mine.pl_0 (by with_reducible assumption) | exact Mine.pl_1 (by with_reducible assumption) | exact Mine.pl_2 (by with_reducible assumption) | (refine Nat.lt_succ_of_lt ?_; first | exact Mine.pl_0 (by with_reducible assumption) | exact Mine.pl_1 (by with_reducible assumption) | exact Mine.pl_2 (by with_reducible assumption) | (refine Nat.lt_succ_of_lt ?_; first | exact Mine.pl_0 (by with_reducible assumption) | exact Mine.pl_1 (by with_reducible assumption) | exact Mine.pl_2 (by with_reducible assumption) | (refine Nat.lt_succ_of_lt ?_; first | exact Mine.pl_0 (by with_reducible assumption) | exact Mine.pl_1 (by with_reducible assumption) | exact Mine.pl_2 (by with_reducible assumption) | (refine Nat.lt_succ_of_lt ?_; first | exact Mine.pl_0 (by with_reducible assumption) | exact Mine.pl_1 (by with_reducible assumption) | exact Mine.pl_2 (by with_reducible assumption))))))) | (refine Ne.symm (Nat.ne_of_lt ?_); first | exact Mine.pl_0 (by with_reducible assumption) | exact Mine.pl_1 (by with_reducible assumption) | exact Mine.pl_2 (by with_reducible assumption) | exact Mine.pl_3 (by with_reducible assumption) | exact Mine.pl_4 (by with_reducible assumption) | exact Mine.pl_5 (by with_reducible assumption) | exact Mine.pl_6 (by with_reducible assumption) | exact Mine.pl_7 (by with_reducible assumption) | exact Mine.pl_8 (by with_reducible assumption) | exact Mine.pl_9 (by with_reducible assumption) | exact Mine.pl_10 (by with_reducible assumption) | exact Mine.pl_11 (by with_reducible assumption) | exact Mine.pl_12 (by with_reducible assumption) | exact Mine.pl_13 (by with_reducible assumption) | exact Mine.pl_14 (by with_reducible assumption) | exact Mine.pl_15 (by with_reducible assumption) | exact Mine.pl_16 (by with_reducible assumption))))
  (k_with "@units_room" => (have hcL' := cLine_is; simp only [units_in1, units_deeper, Around.mark_units]; dsimp only [ktrTop]; omega))
  (k_with "@k_all" => assumption)
  (k_with "@k_ne" => (refine neN ?_; (try dsimp only); first | with_reducible assumption | (refine Ne.symm ?_; with_reducible assumption) | k_extra "nepick"))
  (k_with "@k_mem" => (refine List.mem_cons_of_mem _ ?_; k_mem))
  (k_with "subscriptTail" => (k_here; (with_reducible show wpAny _ _ (subscriptTail _ _ (Value.ref _) (Value.int _ _)) _ _ _); k_dflt (refine' my_tup (by k_asm) (by k_mem) (by decide) (by decide) ?hxZq ?_; (case hxZq => exact rfl)); (try dsimp only)))
  (k_with "subscriptTail" => (k_here; (with_reducible show wpAny _ _ (subscriptTail _ (PySem.Expr.Slice _ _ _ _) (Value.ref _) (Value.ref _)) _ _ _); k_dflt (refine' my_slice (a := _) (b := _) ?FZq ?NZq ?mZq (Nat.le_of_ble_eq_true rfl) (Nat.le_of_ble_eq_true rfl) ?leZq ?zZq ?_; (case FZq => k_asm); (case NZq => k_asm); (case mZq => k_mem); (case leZq => exact Nat.le_of_ble_eq_true rfl); (case zZq => exact Nat.le_of_ble_eq_true rfl)); intro _ _ _ _ l1Zq; (try k_lt l1Zq); (try dsimp only)))
  (k_with "eval ListComp" => (k_here; k_dflt (refine ListComp_tupT (by k_asm) (by with_unfolding_all rfl) (by decide) (by rfl) (by decide) (by rfl) ?_)))
  (k_with "SrcTT" => (k_here; k_dflt (refine' filt_srcT ?k1Zq ?k2Zq ?k3Zq ?k4Zq ?k5Zq ?k6Zq ?k7Zq ?k8Zq ?_; (case k1Zq => rfl); (case k2Zq => k_asm); (case k3Zq => k_asm); (case k4Zq => k_mem); (case k5Zq => first | omega | (simp only [List.length_cons, List.length_nil]; omega) | exact Nat.le_of_ble_eq_true rfl); (case k6Zq => (intro _; rfl)); (case k7Zq => (intro _; rfl)); (case k8Zq => rfl)); intro _; unfold LCg.FinE; intro _ _ _ _ _ _; (try dsimp only)))
  unfold InnerAt Gives
  intro dp un gd cn cs a₉ ccd cl outer A₀ base h₀ L m s Q E B F X N T hk hd hu hret
  refine wpAny_call ?_
  k_dflt ktr_enter
  rename Fr _ _ _ (fun y => List.lookup y _) => F9
  replace F9 : Fr _ _ _ (fun y => ([(Str.ofString "s", .ref a)] : List (Str × Value)).lookup y) := F9
  k_steps
  rename News h₀ L _ _ => kN9
  rename Fr h₀ L _ _ => kF9
  rename LCg.Off1 _ _ => o9
  exact hret _ _ _ _ kF9 (newsSub kN9 fun p hp => (List.mem_cons.mp hp).elim (fun e => e ▸ .head _) fun hp => .tail _ (by repeat' (first | exact hp | apply List.Mem.tail))) ⟨_, rfl, fun p hp => off1_mem o9 p (by repeat' (first | exact hp | apply List.Mem.tail)), rfl⟩
set_option maxHeartbeats 4000000 in
theorem inner_k5 (prog : Program) (w : World) (mean : ExcName → Option Value) (mg mb : Str → Option Value) {news : Led} {a b c e q r : Addr} {vs : List Value} {v v1 v2 sh : Value} {x : Int} {t1 t2 : Tok} (h : (a, tup [.str (Str.ofString "block") t1, .int x t2, .none, .ref q, .ref r]) ∈ news) (hr : (r, tup vs) ∈ news) (hl : vs.length ≤ 3) : InnerAt prog w mean mg mb a vs news := by
  w_top off
  k_with_none
  (k_with "nepick" => (first | (refine Nat.ne_of_lt ?_; first | exact Mine.pl_0 (by with_reducible assumption) | exact Mine.pl_1 (by with_reducible assumption) | exact Mine.pl_2 (by with_reducible assumption) | exact Mine.pl_3 (by with_reducible assumption) | exact Mine.pl_4 (by with_reducible assumption) | exact Mine.pl_5 (by with_reducible assumption) | exact Mine.pl_6 (by with_reducible assumption) | exact Mine.pl_7 (by with_reducible assumption) | exact Mine.pl_8 (by with_reducible assumption) | exact Mine.pl_9 (by with_reducible assumption) | exact Mine.pl_10 (by with_reducible assumption) | exact Mine.pl_11 (by with_reducible assumption) | exact Mine.pl_12 (by with_reducible assumption) | exact Mine.pl_13 (by with_reducible assumption) | exact Mine.pl_14 (by with_reducible assumption) | exact Mine.pl_15 (by with_reducible assumption) | exact Mine.pl_16 (by with_reducible assumption) | (refine Nat.lt_succ_of_lt ?_; first | exact Mine.pl_0 (by with_reducible assumption) | exact Mine.pl_1 (by with_reducible assumption) | exact Mine.pl_2 (by with_reducible assumption) | (refine Nat.lt_succ_of_lt ?_; first | exact Mine.pl_0 (by with_reducible assumption) | exact Mine.pl_1 (by with_reducible assumption) | exact Mine.pl_2 (by with_reducible assumption) | (refine Nat.lt_succ_of_lt ?_; first | exact Mine.pl_0 (by with_reducible assumption) | exact Mine.pl_1 (by with_reducible assumption) | exact Mine.pl_2 (by with_reducible assumption) | (refine Nat.lt_succ_of_lt ?_; first | exact Mine.pl_0 (by with_reducible assumption) | exact Mine.pl_1 (by with_reducible assumption) | exact Mine.pl_2 (by with_reducible assumption) | (refine Nat.lt_succ_of_lt ?_; first | exact Mine.pl_0 (by with_reducible assumption) | exact Mine.pl_1 (by with_reducible assumption) | exact Mine.pl_2 (by with_reducible assumption))))))) | (refine Ne.symm (Nat.ne_of_lt ?_); first | exact Mine.pl_0 (by with_reducible assumption) | exact Mine.pl_1 (by with_reducible assumption) | exact Mine.pl_2 (by with_reducible assumption) | exact Mine.pl_3 (by with_reducible assumption) | exact Mine.pl_4 (by with_reducible assumption) | exact Mine.pl_5 (by with_reducible assumption) | exact Mine.pl_6 (by with_reducible assumption) | exact Mine.pl_7 (by with_reducible assumption) | exact Mine.pl_8 (by with_reducible assumption) | exact Mine.pl_9 (by with_reducible assumption) | exact Mine.pl_10 (by with_reducible assumption) | exact Mine.pl_11 (by with_reducible assumption) | exact Mine.pl_12 (by with_reducible assumption) | exact Mine.pl_13 (by with_reducible assumption) | exact Mine.pl_14 (by with_reducible assumption) | exact Mine.pl_15 (by with_reducible assumption) | exact Mine.pl_16 (by with_reducible assumption))))
  (k_with "@units_room" => (have hcL' := cLine_is; simp only [units_in1, units_deeper, Around.mark_units]; dsimp only [ktrTop]; omega))
  (k_with "@k_all" => assumption)
  (k_with "@k_ne" => (refine neN ?_; (try dsimp only); first | with_reducible assumption | (refine Ne.symm ?_; with_reducible assumption) | k_extra "nepick"))
  (k_with "@k_mem" => (refine List.mem_cons_of_mem _ ?_; k_mem))
  (k_with "subscriptTail" => (k_here; (with_reducible show wpAny _ _ (subscriptTail _ _ (Value.ref _) (Value.int _ _)) _ _ _); k_dflt (refine' my_tup (by k_asm) (by k_mem) (by decide) (by decide) ?hxZq ?_; (case hxZq => exact rfl)); (try dsimp only)))
  (k_with "subscriptTail" => (k_here; (with_reducible show wpAny _ _ (subscriptTail _ (PySem.Expr.Slice _ _ _ _) (Value.ref _) (Value.ref _)) _ _ _); k_dflt (refine' my_slice (a := _) (b := _) ?FZq ?NZq ?mZq (Nat.le_of_ble_eq_true rfl) (Nat.le_of_ble_eq_true rfl) ?leZq ?zZq ?_; (case FZq => k_asm); (case NZq => k_asm); (case mZq => k_mem); (case leZq => exact Nat.le_of_ble_eq_true rfl); (case zZq => exact Nat.le_of_ble_eq_true rfl)); intro _ _ _ _ l1Zq; (try k_lt l1Zq); (try dsimp only)))
  (k_with "eval ListComp" => (k_here; k_dflt (refine ListComp_tupT (by k_asm) (by with_unfolding_all rfl) (by decide) (by rfl) (by decide) (by rfl) ?_)))
  (k_with "SrcTT" => (k_here; k_dflt (refine' filt_srcT ?k1Zq ?k2Zq ?k3Zq ?k4Zq ?k5Zq ?k6Zq ?k7Zq ?k8Zq ?_; (case k1Zq => rfl); (case k2Zq => k_asm); (case k3Zq => k_asm); (case k4Zq => k_mem); (case k5Zq => first | omega | (simp only [List.length_cons, List.length_nil]; omega) | exact Nat.le_of_ble_eq_true rfl); (case k6Zq => (intro _; rfl)); (case k7Zq => (intro _; rfl)); (case k8Zq => rfl)); intro _; unfold LCg.FinE; intro _ _ _ _ _ _; (try dsimp only)))
  unfold InnerAt Gives
  intro dp un gd cn cs a₉ ccd cl outer A₀ base h₀ L m s Q E B F X N T hk hd hu hret
  refine wpAny_call ?_
  k_dflt ktr_enter
  rename Fr _ _ _ (fun y => List.lookup y _) => F9
  replace F9 : Fr _ _ _ (fun y => ([(Str.ofString "s", .ref a)] : List (Str × Value)).lookup y) := F9
  k_steps
  rename News h₀ L _ _ => kN9
  rename Fr h₀ L _ _ => kF9
  rename LCg.Off1 _ _ => o9
  exact hret _ _ _ _ kF9 (newsSub kN9 fun p hp => (List.mem_cons.mp hp).elim (fun e => e ▸ .head _) fun hp => .tail _ (by repeat' (first | exact hp | apply List.Mem.tail))) ⟨_, rfl, fun p hp => off1_mem o9 p (by repeat' (first | exact hp | apply List.Mem.tail)), rfl⟩
set_option maxHeartbeats 4000000 in
theorem inner_k6 (prog : Program) (w : World) (mean : ExcName → Option Value) (mg mb : Str → Option Value) {news : Led} {a b c e q r : Addr} {vs : List Value} {v v1 v2 sh : Value} {x : Int} {t1 t2 : Tok} (h : (a, tup [.str (Str.ofString "fork") t1, .int x t2, .none, .ref q, .ref r]) ∈ news) (hr : (r, tup vs) ∈ news) (hl : vs.length ≤ 3) : InnerAt prog w mean mg mb a vs news := by
  w_top off
  k_with_none
  (k_with "nepick" => (first | (refine Nat.ne_of_lt ?_; first | exact Mine.pl_0 (by with_reducible assumption) | exact Mine.pl_1 (by with_reducible assumption) | exact Mine.pl_2 (by with_reducible assumption) | exact Mine.pl_3 (by with_reducible assumption) | exact Mine.pl_4 (by with_reducible assumption) | exact Mine.pl_5 (by with_reducible assumption) | exact Mine.pl_6 (by with_reducible assumption) | exact Mine.pl_7 (by with_reducible assumption) | exact Mine.pl_8 (by with_reducible assumption) | exact Mine.pl_9 (by with_reducible assumption) | exact Mine.pl_10 (by with_reducible assumption) | exact Mine.pl_11 (by with_reducible assumption) | exact Mine.pl_12 (by with_reducible assumption) | exact Mine.pl_13 (by with_reducible assumption) | exact Mine.pl_14 (by with_reducible assumption) | exact Mine.pl_15 (by with_reducible assumption) | exact Mine.pl_16 (by with_reducible assumption) | (refine Nat.lt_succ_of_lt ?_; first | exact Mine.pl_0 (by with_reducible assumption) | exact Mine.pl_1 (by with_reducible assumption) | exact Mine.pl_2 (by with_reducible assumption) | (refine Nat.lt_succ_of_lt ?_; first | exact Mine.pl_0 (by with_reducible assumption) | exact Mine.pl_1 (by with_reducible assumption) | exact Mine.pl_2 (by with_reducible assumption) | (refine Nat.lt_succ_of_lt ?_; first | exact Mine.pl_0 (by with_reducible assumption) | exact Mine.pl_1 (by with_reducible assumption) | exact Mine.pl_2 (by with_reducible assumption) | (refine Nat.lt_succ_of_lt ?_; first | exact Mine.pl_0 (by with_reducible assumption) | exact Mine.pl_1 (by with_reducible assumption) | exact Mine.pl_2 (by with_reducible assumption) | (refine Nat.lt_succ_of_lt ?_; first | exact Mine.pl_0 (by with_reducible assumption) | exact Mine.pl_1 (by with_reducible assumption) | exact Mine.pl_2 (by with_reducible assumption))))))) | (refine Ne.symm (Nat.ne_of_lt ?_); first | exact Mine.pl_0 (by with_reducible assumption) | exact Mine.pl_1 (by with_reducible assumption) | exact Mine.pl_2 (by with_reducible assumption) | exact Mine.pl_3 (by with_reducible assumption) | exact Mine.pl_4 (by with_reducible assumption) | exact Mine.pl_5 (by with_reducible assumption) | exact Mine.pl_6 (by with_reducible assumption) | exact Mine.pl_7 (by with_reducible assumption) | exact Mine.pl_8 (by with_reducible assumption) | exact Mine.pl_9 (by with_reducible assumption) | exact Mine.pl_10 (by with_reducible assumption) | exact Mine.pl_11 (by with_reducible assumption) | exact Mine.pl_12 (by with_reducible assumption) | exact Mine.pl_13 (by with_reducible assumption) | exact Mine.pl_14 (by with_reducible assumption) | exact Mine.pl_15 (by with_reducible assumption) | exact Mine.pl_16 (by with_reducible assumption))))
  (k_with "@units_room" => (have hcL' := cLine_is; simp only [units_in1, units_deeper, Around.mark_units]; dsimp only [ktrTop]; omega))
  (k_with "@k_all" => assumption)
  (k_with "@k_ne" => (refine neN ?_; (try dsimp only); first | with_reducible assumption | (refine Ne.symm ?_; with_reducible assumption) | k_extra "nepick"))
  (k_with "@k_mem" => (refine List.mem_cons_of_mem _ ?_; k_mem))
  (k_with "subscriptTail" => (k_here; (with_reducible show wpAny _ _ (subscriptTail _ _ (Value.ref _) (Value.int _ _)) _ _ _); k_dflt (refine' my_tup (by k_asm) (by k_mem) (by decide) (by decide) ?hxZq ?_; (case hxZq => exact rfl)); (try dsimp only)))
  (k_with "subscriptTail" => (k_here; (with_reducible show wpAny _ _ (subscriptTail _ (PySem.Expr.Slice _ _ _ _) (Value.ref _) (Value.ref _)) _ _ _); k_dflt (refine' my_slice (a := _) (b := _) ?FZq ?NZq ?mZq (Nat.le_of_ble_eq_true rfl) (Nat.le_of_ble_eq_true rfl) ?leZq ?zZq ?_; (case FZq => k_asm); (case NZq => k_asm); (case mZq => k_mem); (case leZq => exact Nat.le_of_ble_eq_true rfl); (case zZq => exact Nat.le_of_ble_eq_true rfl)); intro _ _ _ _ l1Zq; (try k_lt l1Zq); (try dsimp only)))
  (k_with "eval ListComp" => (k_here; k_dflt (refine ListComp_tupT (by k_asm) (by with_unfolding_all rfl) (by decide) (by rfl) (by decide) (by rfl) ?_)))
  (k_with "SrcTT" => (k_here; k_dflt (refine' filt_srcT ?k1Zq ?k2Zq ?k3Zq ?k4Zq ?k5Zq ?k6Zq ?k7Zq ?k8Zq ?_; (case k1Zq => rfl); (case k2Zq => k_asm); (case k3Zq => k_asm); (case k4Zq => k_mem); (case k5Zq => first | omega | (simp only [List.length_cons, List.length_nil]; omega) | exact Nat.le_of_ble_eq_true rfl); (case k6Zq => (intro _; rfl)); (case k7Zq => (intro _; rfl)); (case k8Zq => rfl)); intro _; unfold LCg.FinE; intro _ _ _ _ _ _; (try dsimp only)))
  unfold InnerAt Gives
  intro dp un gd cn cs a₉ ccd cl outer A₀ base h₀ L m s Q E B F X N T hk hd hu hret
  refine wpAny_call ?_
  k_dflt ktr_enter
  rename Fr _ _ _ (fun y => List.lookup y _) => F9
  replace F9 : Fr _ _ _ (fun y => ([(Str.ofString "s", .ref a)] : List (Str × Value)).lookup y) := F9
  k_steps
  rename News h₀ L _ _ => kN9
  rename Fr h₀ L _ _ => kF9
  rename LCg.Off1 _ _ => o9
  exact hret _ _ _ _ kF9 (newsSub kN9 fun p hp => (List.mem_cons.mp hp).elim (fun e => e ▸ .head _) fun hp => .tail _ (by repeat' (first | exact hp | apply List.Mem.tail))) ⟨_, rfl, fun p hp => off1_mem o9 p (by repeat' (first | exact hp | apply List.Mem.tail)), rfl⟩
set_option maxHeartbeats 4000000 in
theorem inner_k8 (prog : Program) (w : World) (mean : ExcName → Option Value) (mg mb : Str → Option Value) {news : Led} {a b c e q r : Addr} {vs : List Value} {v v1 v2 sh : Value} {x : Int} {t1 t2 : Tok} (h : (a, tup [.str (Str.ofString "if") t1, .int x t2, sh, v1, v2]) ∈ news) : InnerAt prog w mean mg mb a [v1, v2] news := by
  w_top off
  k_with_none
  (k_with "nepick" => (first | (refine Nat.ne_of_lt ?_; first | exact Mine.pl_0 (by with_reducible assumption) | exact Mine.pl_1 (by with_reducible assumption) | exact Mine.pl_2 (by with_reducible assumption) | exact Mine.pl_3 (by with_reducible assumption) | exact Mine.pl_4 (by with_reducible assumption) | exact Mine.pl_5 (by with_reducible assumption) | exact Mine.pl_6 (by with_reducible assumption) | exact Mine.pl_7 (by with_reducible assumption) | exact Mine.pl_8 (by with_reducible assumption) | exact Mine.pl_9 (by with_reducible assumption) | exact Mine.pl_10 (by with_reducible assumption) | exact Mine.pl_11 (by with_reducible assumption) | exact Mine.pl_12 (by with_reducible assumption) | exact Mine.pl_13 (by with_reducible assumption) | exact Mine.pl_14 (by with_reducible assumption) | exact Mine.pl_15 (by with_reducible assumption) | exact Mine.pl_16 (by with_reducible assumption) | (refine Nat.lt_succ_of_lt ?_; first | exact Mine.pl_0 (by with_reducible assumption) | exact Mine.pl_1 (by with_reducible assumption) | exact Mine.pl_2 (by with_reducible assumption) | (refine Nat.lt_succ_of_lt ?_; first | exact Mine.pl_0 (by with_reducible assumption) | exact Mine.pl_1 (by with_reducible assumption) | exact Mine.pl_2 (by with_reducible assumption) | (refine Nat.lt_succ_of_lt ?_; first | exact Mine.pl_0 (by with_reducible assumption) | exact Mine.pl_1 (by with_reducible assumption) | exact Mine.pl_2 (by with_reducible assumption) | (refine Nat.lt_succ_of_lt ?_; first | exact Mine.pl_0 (by with_reducible assumption) | exact Mine.pl_1 (by with_reducible assumption) | exact Mine.pl_2 (by with_reducible assumption) | (refine Nat.lt_succ_of_lt ?_; first | exact Mine.pl_0 (by with_reducible assumption) | exact Mine.pl_1 (by with_reducible assumption) | exact Mine.pl_2 (by with_reducible assumption))))))) | (refine Ne.symm (Nat.ne_of_lt ?_); first | exact Mine.pl_0 (by with_reducible assumption) | exact Mine.pl_1 (by with_reducible assumption) | exact Mine.pl_2 (by with_reducible assumption) | exact Mine.pl_3 (by with_reducible assumption) | exact Mine.pl_4 (by with_reducible assumption) | exact Mine.pl_5 (by with_reducible assumption) | exact Mine.pl_6 (by with_reducible assumption) | exact Mine.pl_7 (by with_reducible assumption) | exact Mine.pl_8 (by with_reducible assumption) | exact Mine.pl_9 (by with_reducible assumption) | exact Mine.pl_10 (by with_reducible assumption) | exact Mine.pl_11 (by with_reducible assumption) | exact Mine.pl_12 (by with_reducible assumption) | exact Mine.pl_13 (by with_reducible assumption) | exact Mine.pl_14 (by with_reducible assumption) | exact Mine.pl_15 (by with_reducible assumption) | exact Mine.pl_16 (by with_reducible assumption))))
  (k_with "@units_room" => (have hcL' := cLine_is; simp only [units_in1, units_deeper, Around.mark_units]; dsimp only [ktrTop]; omega))
  (k_with "@k_all" => assumption)
  (k_with "@k_ne" => (refine neN ?_; (try dsimp only); first | with_reducible assumption | (refine Ne.symm ?_; with_reducible assumption) | k_extra "nepick"))
  (k_with "@k_mem" => (refine List.mem_cons_of_mem _ ?_; k_mem))
  (k_with "subscriptTail" => (k_here; (with_reducible show wpAny _ _ (subscriptTail _ _ (Value.ref _) (Value.int _ _)) _ _ _); k_dflt (refine' my_tup (by k_asm) (by k_mem) (by decide) (by decide) ?hxZq ?_; (case hxZq => exact rfl)); (try dsimp only)))
  (k_with "subscriptTail" => (k_here; (with_reducible show wpAny _ _ (subscriptTail _ (PySem.Expr.Slice _ _ _ _) (Value.ref _) (Value.ref _)) _ _ _); k_dflt (refine' my_slice (a := _) (b := _) ?FZq ?NZq ?mZq (Nat.le_of_ble_eq_true rfl) (Nat.le_of_ble_eq_true rfl) ?leZq ?zZq ?_; (case FZq => k_asm); (case NZq => k_asm); (case mZq => k_mem); (case leZq => exact Nat.le_of_ble_eq_true rfl); (case zZq => exact Nat.le_of_ble_eq_true rfl)); intro _ _ _ _ l1Zq; (try k_lt l1Zq); (try dsimp only)))
  (k_with "eval ListComp" => (k_here; k_dflt (refine ListComp_tupT (by k_asm) (by with_unfolding_all rfl) (by decide) (by rfl) (by decide) (by rfl) ?_)))
  (k_with "SrcTT" => (k_here; k_dflt (refine' filt_srcT ?k1Zq ?k2Zq ?k3Zq ?k4Zq ?k5Zq ?k6Zq ?k7Zq ?k8Zq ?_; (case k1Zq => rfl); (case k2Zq => k_asm); (case k3Zq => k_asm); (case k4Zq => k_mem); (case k5Zq => first | omega | (simp only [List.length_cons, List.length_nil]; omega) | exact Nat.le_of_ble_eq_true rfl); (case k6Zq => (intro _; rfl)); (case k7Zq => (intro _; rfl)); (case k8Zq => rfl)); intro _; unfold LCg.FinE; intro _ _ _ _ _ _; (try dsimp only)))
  unfold InnerAt Gives
  intro dp un gd cn cs a₉ ccd cl outer A₀ base h₀ L m s Q E B F X N T hk hd hu hret
  refine wpAny_call ?_
  k_dflt ktr_enter
  rename Fr _ _ _ (fun y => List.lookup y _) => F9
  replace F9 : Fr _ _ _ (fun y => ([(Str.ofString "s", .ref a)] : List (Str × Value)).lookup y) := F9
  k_steps
  rename News h₀ L _ _ => kN9
  rename Fr h₀ L _ _ => kF9
  rename LCg.Off1 _ _ => o9
  exact hret _ _ _ _ kF9 (newsSub kN9 fun p hp => (List.mem_cons.mp hp).elim (fun e => e ▸ .head _) fun hp => .tail _ (by repeat' (first | exact hp | apply List.Mem.tail))) ⟨_, rfl, fun p hp => off1_mem o9 p (by repeat' (first | exact hp | apply List.Mem.tail)), rfl⟩
set_option maxHeartbeats 4000000 in
theorem inner_k9 (prog : Program) (w : World) (mean : ExcName → Option Value) (mg mb : Str → Option Value) {news : Led} {a b c e q r : Addr} {vs : List Value} {v v1 v2 sh : Value} {x : Int} {t1 t2 : Tok} (h : (a, tup [.str (Str.ofString "for") t1, .int x t2, .ref q, sh, .ref r, v]) ∈ news) : InnerAt prog w mean mg mb a [v] news := by
  w_top off
  k_with_none
  (k_with "nepick" => (first | (refine Nat.ne_of_lt ?_; first | exact Mine.pl_0 (by with_reducible assumption) | exact Mine.pl_1 (by with_reducible assumption) | exact Mine.pl_2 (by with_reducible assumption) | exact Mine.pl_3 (by with_reducible assumption) | exact Mine.pl_4 (by with_reducible assumption) | exact Mine.pl_5 (by with_reducible assumption) | exact Mine.pl_6 (by with_reducible assumption) | exact Mine.pl_7 (by with_reducible assumption) | exact Mine.pl_8 (by with_reducible assumption) | exact Mine.pl_9 (by with_reducible assumption) | exact Mine.pl_10 (by with_reducible assumption) | exact Mine.pl_11 (by with_reducible assumption) | exact Mine.pl_12 (by with_reducible assumption) | exact Mine.pl_13 (by with_reducible assumption) | exact Mine.pl_14 (by with_reducible assumption) | exact Mine.pl_15 (by with_reducible assumption) | exact Mine.pl_16 (by with_reducible assumption) | (refine Nat.lt_succ_of_lt ?_; first | exact Mine.pl_0 (by with_reducible assumption) | exact Mine.pl_1 (by with_reducible assumption) | exact Mine.pl_2 (by with_reducible assumption) | (refine Nat.lt_succ_of_lt ?_; first | exact Mine.pl_0 (by with_reducible assumption) | exact Mine.pl_1 (by with_reducible assumption) | exact Mine.pl_2 (by with_reducible assumption) | (refine Nat.lt_succ_of_lt ?_; first | exact Mine.pl_0 (by with_reducible assumption) | exact Mine.pl_1 (by with_reducible assumption) | exact Mine.pl_2 (by with_reducible assumption) | (refine Nat.lt_succ_of_lt ?_; first | exact Mine.pl_0 (by with_reducible assumption) | exact Mine.pl_1 (by with_reducible assumption) | exact Mine.pl_2 (by with_reducible assumption) | (refine Nat.lt_succ_of_lt ?_; first | exact Mine.pl_0 (by with_reducible assumption) | exact Mine.pl_1 (by with_reducible assumption) | exact Mine.pl_2 (by with_reducible assumption))))))) | (refine Ne.symm (Nat.ne_of_lt ?_); first | exact Mine.pl_0 (by with_reducible assumption) | exact Mine.pl_1 (by with_reducible assumption) | exact Mine.pl_2 (by with_reducible assumption) | exact Mine.pl_3 (by with_reducible assumption) | exact Mine.pl_4 (by with_reducible assumption) | exact Mine.pl_5 (by with_reducible assumption) | exact Mine.pl_6 (by with_reducible assumption) | exact Mine.pl_7 (by with_reducible assumption) | exact Mine.pl_8 (by with_reducible assumption) | exact Mine.pl_9 (by with_reducible assumption) | exact Mine.pl_10 (by with_reducible assumption) | exact Mine.pl_11 (by with_reducible assumption) | exact Mine.pl_12 (by with_reducible assumption) | exact Mine.pl_13 (by with_reducible assumption) | exact Mine.pl_14 (by with_reducible assumption) | exact Mine.pl_15 (by with_reducible assumption) | exact Mine.pl_16 (by with_reducible assumption))))
  (k_with "@units_room" => (have hcL' := cLine_is; simp only [units_in1, units_deeper, Around.mark_units]; dsimp only [ktrTop]; omega))
  (k_with "@k_all" => assumption)
  (k_with "@k_ne" => (refine neN ?_; (try dsimp only); first | with_reducible assumption | (refine Ne.symm ?_; with_reducible assumption) | k_extra "nepick"))
  (k_with "@k_mem" => (refine List.mem_cons_of_mem _ ?_; k_mem))
  (k_with "subscriptTail" => (k_here; (with_reducible show wpAny _ _ (subscriptTail _ _ (Value.ref _) (Value.int _ _)) _ _ _); k_dflt (refine' my_tup (by k_asm) (by k_mem) (by decide) (by decide) ?hxZq ?_; (case hxZq => exact rfl)); (try dsimp only)))
  (k_with "subscriptTail" => (k_here; (with_reducible show wpAny _ _ (subscriptTail _ (PySem.Expr.Slice _ _ _ _) (Value.ref _) (Value.ref _)) _ _ _); k_dflt (refine' my_slice (a := _) (b := _) ?FZq ?NZq ?mZq (Nat.le_of_ble_eq_true rfl) (Nat.le_of_ble_eq_true rfl) ?leZq ?zZq ?_; (case FZq => k_asm); (case NZq => k_asm); (case mZq => k_mem); (case leZq => exact Nat.le_of_ble_eq_true rfl); (case zZq => exact Nat.le_of_ble_eq_true rfl)); intro _ _ _ _ l1Zq; (try k_lt l1Zq); (try dsimp only)))
  (k_with "eval ListComp" => (k_here; k_dflt (refine ListComp_tupT (by k_asm) (by with_unfolding_all rfl) (by decide) (by rfl) (by decide) (by rfl) ?_)))
  (k_with "SrcTT" => (k_here; k_dflt (refine' filt_srcT ?k1Zq ?k2Zq ?k3Zq ?k4Zq ?k5Zq ?k6Zq ?k7Zq ?k8Zq ?_; (case k1Zq => rfl); (case k2Zq => k_asm); (case k3Zq => k_asm); (case k4Zq => k_mem); (case k5Zq => first | omega | (simp only [List.length_cons, List.length_nil]; omega) | exact Nat.le_of_ble_eq_true rfl); (case k6Zq => (intro _; rfl)); (case k7Zq => (intro _; rfl)); (case k8Zq => rfl)); intro _; unfold LCg.FinE; intro _ _ _ _ _ _; (try dsimp only)))
  unfold InnerAt Gives
  intro dp un gd cn cs a₉ ccd cl outer A₀ base h₀ L m s Q E B F X N T hk hd hu hret
  refine wpAny_call ?_
  k_dflt ktr_enter
  rename Fr _ _ _ (fun y => List.lookup y _) => F9
  replace F9 : Fr _ _ _ (fun y => ([(Str.ofString "s", .ref a)] : List (Str × Value)).lookup y) := F9
  k_steps
  rename News h₀ L _ _ => kN9
  rename Fr h₀ L _ _ => kF9
  rename LCg.Off1 _ _ => o9
  exact hret _ _ _ _ kF9 (newsSub kN9 fun p hp => (List.mem_cons.mp hp).elim (fun e => e ▸ .head _) fun hp => .tail _ (by repeat' (first | exact hp | apply List.Mem.tail))) ⟨_, rfl, fun p hp => off1_mem o9 p (by repeat' (first | exact hp | apply List.Mem.tail)), rfl⟩
set_option maxHeartbeats 4000000 in
theorem inner_k10 (prog : Program) (w : World) (mean : ExcName → Option Value) (mg mb : Str → Option Value) {news : Led} {a b c e q r : Addr} {vs : List Value} {v v1 v2 sh : Value} {x : Int} {t1 t2 : Tok} (h : (a, tup [.str (Str.ofString "forever") t1, .int x t2, v]) ∈ news) : InnerAt prog w mean mg mb a [v] news := by
  w_top off
  k_with_none
  (k_with "nepick" => (first | (refine Nat.ne_of_lt ?_; first | exact Mine.pl_0 (by with_reducible assumption) | exact Mine.pl_1 (by with_reducible assumption) | exact Mine.pl_2 (by with_reducible assumption) | exact Mine.pl_3 (by with_reducible assumption) | exact Mine.pl_4 (by with_reducible assumption) | exact Mine.pl_5 (by with_reducible assumption) | exact Mine.pl_6 (by with_reducible assumption) | exact Mine.pl_7 (by with_reducible assumption) | exact Mine.pl_8 (by with_reducible assumption) | exact Mine.pl_9 (by with_reducible assumption) | exact Mine.pl_10 (by with_reducible assumption) | exact Mine.pl_11 (by with_reducible assumption) | exact Mine.pl_12 (by with_reducible assumption) | exact Mine.pl_13 (by with_reducible assumption) | exact Mine.pl_14 (by with_reducible assumption) | exact Mine.pl_15 (by with_reducible assumption) | exact Mine.pl_16 (by with_reducible assumption) | (refine Nat.lt_succ_of_lt ?_; first | exact Mine.pl_0 (by with_reducible assumption) | exact Mine.pl_1 (by with_reducible assumption) | exact Mine.pl_2 (by with_reducible assumption) | (refine Nat.lt_succ_of_lt ?_; first | exact Mine.pl_0 (by with_reducible assumption) | exact Mine.pl_1 (by with_reducible assumption) | exact Mine.pl_2 (by with_reducible assumption) | (refine Nat.lt_succ_of_lt ?_; first | exact Mine.pl_0 (by with_reducible assumption) | exact Mine.pl_1 (by with_reducible assumption) | exact Mine.pl_2 (by with_reducible assumption) | (refine Nat.lt_succ_of_lt ?_; first | exact Mine.pl_0 (by with_reducible assumption) | exact Mine.pl_1 (by with_reducible assumption) | exact Mine.pl_2 (by with_reducible assumption) | (refine Nat.lt_succ_of_lt ?_; first | exact Mine.pl_0 (by with_reducible assumption) | exact Mine.pl_1 (by with_reducible assumption) | exact Mine.pl_2 (by with_reducible assumption))))))) | (refine Ne.symm (Nat.ne_of_lt ?_); first | exact Mine.pl_0 (by with_reducible assumption) | exact Mine.pl_1 (by with_reducible assumption) | exact Mine.pl_2 (by with_reducible assumption) | exact Mine.pl_3 (by with_reducible assumption) | exact Mine.pl_4 (by with_reducible assumption) | exact Mine.pl_5 (by with_reducible assumption) | exact Mine.pl_6 (by with_reducible assumption) | exact Mine.pl_7 (by with_reducible assumption) | exact Mine.pl_8 (by with_reducible assumption) | exact Mine.pl_9 (by with_reducible assumption) | exact Mine.pl_10 (by with_reducible assumption) | exact Mine.pl_11 (by with_reducible assumption) | exact Mine.pl_12 (by with_reducible assumption) | exact Mine.pl_13 (by with_reducible assumption) | exact Mine.pl_14 (by with_reducible assumption) | exact Mine.pl_15 (by with_reducible assumption) | exact Mine.pl_16 (by with_reducible assumption))))
  (k_with "@units_room" => (have hcL' := cLine_is; simp only [units_in1, units_deeper, Around.mark_units]; dsimp only [ktrTop]; omega))
  (k_with "@k_all" => assumption)
  (k_with "@k_ne" => (refine neN ?_; (try dsimp only); first | with_reducible assumption | (refine Ne.symm ?_; with_reducible assumption) | k_extra "nepick"))
  (k_with "@k_mem" => (refine List.mem_cons_of_mem _ ?_; k_mem))
  (k_with "subscriptTail" => (k_here; (with_reducible show wpAny _ _ (subscriptTail _ _ (Value.ref _) (Value.int _ _)) _ _ _); k_dflt (refine' my_tup (by k_asm) (by k_mem) (by decide) (by decide) ?hxZq ?_; (case hxZq => exact rfl)); (try dsimp only)))
  (k_with "subscriptTail" => (k_here; (with_reducible show wpAny _ _ (subscriptTail _ (PySem.Expr.Slice _ _ _ _) (Value.ref _) (Value.ref _)) _ _ _); k_dflt (refine' my_slice (a := _) (b := _) ?FZq ?NZq ?mZq (Nat.le_of_ble_eq_true rfl) (Nat.le_of_ble_eq_true rfl) ?leZq ?zZq ?_; (case FZq => k_asm); (case NZq => k_asm); (case mZq => k_mem); (case leZq => exact Nat.le_of_ble_eq_true rfl); (case zZq => exact Nat.le_of_ble_eq_true rfl)); intro _ _ _ _ l1Zq; (try k_lt l1Zq); (try dsimp only)))
  (k_with "eval ListComp" => (k_here; k_dflt (refine ListComp_tupT (by k_asm) (by with_unfolding_all rfl) (by decide) (by rfl) (by decide) (by rfl) ?_)))
  (k_with "SrcTT" => (k_here; k_dflt (refine' filt_srcT ?k1Zq ?k2Zq ?k3Zq ?k4Zq ?k5Zq ?k6Zq ?k7Zq ?k8Zq ?_; (case k1Zq => rfl); (case k2Zq => k_asm); (case k3Zq => k_asm); (case k4Zq => k_mem); (case k5Zq => first | omega | (simp only [List.length_cons, List.length_nil]; omega) | exact Nat.le_of_ble_eq_true rfl); (case k6Zq => (intro _; rfl)); (case k7Zq => (intro _; rfl)); (case k8Zq => rfl)); intro _; unfold LCg.FinE; intro _ _ _ _ _ _; (try dsimp only)))
  unfold InnerAt Gives
  intro dp un gd cn cs a₉ ccd cl outer A₀ base h₀ L m s Q E B F X N T hk hd hu hret
  refine wpAny_call ?_
  k_dflt ktr_enter
  rename Fr _ _ _ (fun y => List.lookup y _) => F9
  replace F9 : Fr _ _ _ (fun y => ([(Str.ofString "s", .ref a)] : List (Str × Value)).lookup y) := F9
  k_steps
  rename News h₀ L _ _ => kN9
  rename Fr h₀ L _ _ => kF9
  rename LCg.Off1 _ _ => o9
  exact hret _ _ _ _ kF9 (newsSub kN9 fun p hp => (List.mem_cons.mp hp).elim (fun e => e ▸ .head _) fun hp => .tail _ (by repeat' (first | exact hp | apply List.Mem.tail))) ⟨_, rfl, fun p hp => off1_mem o9 p (by repeat' (first | exact hp | apply List.Mem.tail)), rfl⟩
set_option maxHeartbeats 4000000 in
theorem inner_k11 (prog : Program) (w : World) (mean : ExcName → Option Value) (mg mb : Str → Option Value) {news : Led} {a b c e q r : Addr} {vs : List Value} {v v1 v2 sh : Value} {x : Int} {t1 t2 : Tok} (h : (a, tup [.str (Str.ofString "while") t1, .int x t2, sh, v]) ∈ news) : InnerAt prog w mean mg mb a [v] news := by
  w_top off
  k_with_none
  (k_with "nepick" => (first | (refine Nat.ne_of_lt ?_; first | exact Mine.pl_0 (by with_reducible assumption) | exact Mine.pl_1 (by with_reducible assumption) | exact Mine.pl_2 (by with_reducible assumption) | exact Mine.pl_3 (by with_reducible assumption) | exact Mine.pl_4 (by with_reducible assumption) | exact Mine.pl_5 (by with_reducible assumption) | exact Mine.pl_6 (by with_reducible assumption) | exact Mine.pl_7 (by with_reducible assumption) | exact Mine.pl_8 (by with_reducible assumption) | exact Mine.pl_9 (by with_reducible assumption) | exact Mine.pl_10 (by with_reducible assumption) | exact Mine.pl_11 (by with_reducible assumption) | exact Mine.pl_12 (by with_reducible assumption) | exact Mine.pl_13 (by with_reducible assumption) | exact Mine.pl_14 (by with_reducible assumption) | exact Mine.pl_15 (by with_reducible assumption) | exact Mine.pl_16 (by with_reducible assumption) | (refine Nat.lt_succ_of_lt ?_; first | exact Mine.pl_0 (by with_reducible assumption) | exact Mine.pl_1 (by with_reducible assumption) | exact Mine.pl_2 (by with_reducible assumption) | (refine Nat.lt_succ_of_lt ?_; first | exact Mine.pl_0 (by with_reducible assumption) | exact Mine.pl_1 (by with_reducible assumption) | exact Mine.pl_2 (by with_reducible assumption) | (refine Nat.lt_succ_of_lt ?_; first | exact Mine.pl_0 (by with_reducible assumption) | exact Mine.pl_1 (by with_reducible assumption) | exact Mine.pl_2 (by with_reducible assumption) | (refine Nat.lt_succ_of_lt ?_; first | exact Mine.pl_0 (by with_reducible assumption) | exact Mine.pl_1 (by with_reducible assumption) | exact Mine.pl_2 (by with_reducible assumption) | (refine Nat.lt_succ_of_lt ?_; first | exact Mine.pl_0 (by with_reducible assumption) | exact Mine.pl_1 (by with_reducible assumption) | exact Mine.pl_2 (by with_reducible assumption))))))) | (refine Ne.symm (Nat.ne_of_lt ?_); first | exact Mine.pl_0 (by with_reducible assumption) | exact Mine.pl_1 (by with_reducible assumption) | exact Mine.pl_2 (by with_reducible assumption) | exact Mine.pl_3 (by with_reducible assumption) | exact Mine.pl_4 (by with_reducible assumption) | exact Mine.pl_5 (by with_reducible assumption) | exact Mine.pl_6 (by with_reducible assumption) | exact Mine.pl_7 (by with_reducible assumption) | exact Mine.pl_8 (by with_reducible assumption) | exact Mine.pl_9 (by with_reducible assumption) | exact Mine.pl_10 (by with_reducible assumption) | exact Mine.pl_11 (by with_reducible assumption) | exact Mine.pl_12 (by with_reducible assumption) | exact Mine.pl_13 (by with_reducible assumption) | exact Mine.pl_14 (by with_reducible assumption) | exact Mine.pl_15 (by with_reducible assumption) | exact Mine.pl_16 (by with_reducible assumption))))
  (k_with "@units_room" => (have hcL' := cLine_is; simp only [units_in1, units_deeper, Around.mark_units]; dsimp only [ktrTop]; omega))
  (k_with "@k_all" => assumption)
  (k_with "@k_ne" => (refine neN ?_; (try dsimp only); first | with_reducible assumption | (refine Ne.symm ?_; with_reducible assumption) | k_extra "nepick"))
  (k_with "@k_mem" => (refine List.mem_cons_of_mem _ ?_; k_mem))
  (k_with "subscriptTail" => (k_here; (with_reducible show wpAny _ _ (subscriptTail _ _ (Value.ref _) (Value.int _ _)) _ _ _); k_dflt (refine' my_tup (by k_asm) (by k_mem) (by decide) (by decide) ?hxZq ?_; (case hxZq => exact rfl)); (try dsimp only)))
  (k_with "subscriptTail" => (k_here; (with_reducible show wpAny _ _ (subscriptTail _ (PySem.Expr.Slice _ _ _ _) (Value.ref _) (Value.ref _)) _ _ _); k_dflt (refine' my_slice (a := _) (b := _) ?FZq ?NZq ?mZq (Nat.le_of_ble_eq_true rfl) (Nat.le_of_ble_eq_true rfl) ?leZq ?zZq ?_; (case FZq => k_asm); (case NZq => k_asm); (case mZq => k_mem); (case leZq => exact Nat.le_of_ble_eq_true rfl); (case zZq => exact Nat.le_of_ble_eq_true rfl)); intro _ _ _ _ l1Zq; (try k_lt l1Zq); (try dsimp only)))
  (k_with "eval ListComp" => (k_here; k_dflt (refine ListComp_tupT (by k_asm) (by with_unfolding_all rfl) (by decide) (by rfl) (by decide) (by rfl) ?_)))
  (k_with "SrcTT" => (k_here; k_dflt (refine' filt_srcT ?k1Zq ?k2Zq ?k3Zq ?k4Zq ?k5Zq ?k6Zq ?k7Zq ?k8Zq ?_; (case k1Zq => rfl); (case k2Zq => k_asm); (case k3Zq => k_asm); (case k4Zq => k_mem); (case k5Zq => first | omega | (simp only [List.length_cons, List.length_nil]; omega) | exact Nat.le_of_ble_eq_true rfl); (case k6Zq => (intro _; rfl)); (case k7Zq => (intro _; rfl)); (case k8Zq => rfl)); intro _; unfold LCg.FinE; intro _ _ _ _ _ _; (try dsimp only)))
  unfold InnerAt Gives
  intro dp un gd cn cs a₉ ccd cl outer A₀ base h₀ L m s Q E B F X N T hk hd hu hret
  refine wpAny_call ?_
  k_dflt ktr_enter
  rename Fr _ _ _ (fun y => List.lookup y _) => F9
  replace F9 : Fr _ _ _ (fun y => ([(Str.ofString "s", .ref a)] : List (Str × Value)).lookup y) := F9
  k_steps
  rename News h₀ L _ _ => kN9
  rename Fr h₀ L _ _ => kF9
  rename LCg.Off1 _ _ => o9
  exact hret _ _ _ _ kF9 (newsSub kN9 fun p hp => (List.mem_cons.mp hp).elim (fun e => e ▸ .head _) fun hp => .tail _ (by repeat' (first | exact hp | apply List.Mem.tail))) ⟨_, rfl, fun p hp => off1_mem o9 p (by repeat' (first | exact hp | apply List.Mem.tail)), rfl⟩
set_option maxHeartbeats 4000000 in
theorem inner_k12 (prog : Program) (w : World) (mean : ExcName → Option Value) (mg mb : Str → Option Value) {news : Led} {a b c e q r : Addr} {vs : List Value} {v v1 v2 sh : Value} {x : Int} {t1 t2 : Tok} (h : (a, tup [.str (Str.ofString "repeat") t1, .int x t2, sh, v]) ∈ news) : InnerAt prog w mean mg mb a [v] news := by
  w_top off
  k_with_none
  (k_with "nepick" => (first | (refine Nat.ne_of_lt ?_; first | exact Mine.pl_0 (by with_reducible assumption) | exact Mine.pl_1 (by with_reducible assumption) | exact Mine.pl_2 (by with_reducible assumption) | exact Mine.pl_3 (by with_reducible assumption) | exact Mine.pl_4 (by with_reducible assumption) | exact Mine.pl_5 (by with_reducible assumption) | exact Mine.pl_6 (by with_reducible assumption) | exact Mine.pl_7 (by with_reducible assumption) | exact Mine.pl_8 (by with_reducible assumption) | exact Mine.pl_9 (by with_reducible assumption) | exact Mine.pl_10 (by with_reducible assumption) | exact Mine.pl_11 (by with_reducible assumption) | exact Mine.pl_12 (by with_reducible assumption) | exact Mine.pl_13 (by with_reducible assumption) | exact Mine.pl_14 (by with_reducible assumption) | exact Mine.pl_15 (by with_reducible assumption) | exact Mine.pl_16 (by with_reducible assumption) | (refine Nat.lt_succ_of_lt ?_; first | exact Mine.pl_0 (by with_reducible assumption) | exact Mine.pl_1 (by with_reducible assumption) | exact Mine.pl_2 (by with_reducible assumption) | (refine Nat.lt_succ_of_lt ?_; first | exact Mine.pl_0 (by with_reducible assumption) | exact Mine.pl_1 (by with_reducible assumption) | exact Mine.pl_2 (by with_reducible assumption) | (refine Nat.lt_succ_of_lt ?_; first | exact Mine.pl_0 (by with_reducible assumption) | exact Mine.pl_1 (by with_reducible assumption) | exact Mine.pl_2 (by with_reducible assumption) | (refine Nat.lt_succ_of_lt ?_; first | exact Mine.pl_0 (by with_reducible assumption) | exact Mine.pl_1 (by with_reducible assumption) | exact Mine.pl_2 (by with_reducible assumption) | (refine Nat.lt_succ_of_lt ?_; first | exact Mine.pl_0 (by with_reducible assumption) | exact Mine.pl_1 (by with_reducible assumption) | exact Mine.pl_2 (by with_reducible assumption))))))) | (refine Ne.symm (Nat.ne_of_lt ?_); first | exact Mine.pl_0 (by with_reducible assumption) | exact Mine.pl_1 (by with_reducible assumption) | exact Mine.pl_2 (by with_reducible assumption) | exact Mine.pl_3 (by with_reducible assumption) | exact Mine.pl_4 (by with_reducible assumption) | exact Mine.pl_5 (by with_reducible assumption) | exact Mine.pl_6 (by with_reducible assumption) | exact Mine.pl_7 (by with_reducible assumption) | exact Mine.pl_8 (by with_reducible assumption) | exact Mine.pl_9 (by with_reducible assumption) | exact Mine.pl_10 (by with_reducible assumption) | exact Mine.pl_11 (by with_reducible assumption) | exact Mine.pl_12 (by with_reducible assumption) | exact Mine.pl_13 (by with_reducible assumption) | exact Mine.pl_14 (by with_reducible assumption) | exact Mine.pl_15 (by with_reducible assumption) | exact Mine.pl_16 (by with_reducible assumption))))
  (k_with "@units_room" => (have hcL' := cLine_is; simp only [units_in1, units_deeper, Around.mark_units]; dsimp only [ktrTop]; omega))
  (k_with "@k_all" => assumption)
  (k_with "@k_ne" => (refine neN ?_; (try dsimp only); first | with_reducible assumption | (refine Ne.symm ?_; with_reducible assumption) | k_extra "nepick"))
  (k_with "@k_mem" => (refine List.mem_cons_of_mem _ ?_; k_mem))
  (k_with "subscriptTail" => (k_here; (with_reducible show wpAny _ _ (subscriptTail _ _ (Value.ref _) (Value.int _ _)) _ _ _); k_dflt (refine' my_tup (by k_asm) (by k_mem) (by decide) (by decide) ?hxZq ?_; (case hxZq => exact rfl)); (try dsimp only)))
  (k_with "subscriptTail" => (k_here; (with_reducible show wpAny _ _ (subscriptTail _ (PySem.Expr.Slice _ _ _ _) (Value.ref _) (Value.ref _)) _ _ _); k_dflt (refine' my_slice (a := _) (b := _) ?FZq ?NZq ?mZq (Nat.le_of_ble_eq_true rfl) (Nat.le_of_ble_eq_true rfl) ?leZq ?zZq ?_; (case FZq => k_asm); (case NZq => k_asm); (case mZq => k_mem); (case leZq => exact Nat.le_of_ble_eq_true rfl); (case zZq => exact Nat.le_of_ble_eq_true rfl)); intro _ _ _ _ l1Zq; (try k_lt l1Zq); (try dsimp only)))
  (k_with "eval ListComp" => (k_here; k_dflt (refine ListComp_tupT (by k_asm) (by with_unfolding_all rfl) (by decide) (by rfl) (by decide) (by rfl) ?_)))
  (k_with "SrcTT" => (k_here; k_dflt (refine' filt_srcT ?k1Zq ?k2Zq ?k3Zq ?k4Zq ?k5Zq ?k6Zq ?k7Zq ?k8Zq ?_; (case k1Zq => rfl); (case k2Zq => k_asm); (case k3Zq => k_asm); (case k4Zq => k_mem); (case k5Zq => first | omega | (simp only [List.length_cons, List.length_nil]; omega) | exact Nat.le_of_ble_eq_true rfl); (case k6Zq => (intro _; rfl)); (case k7Zq => (intro _; rfl)); (case k8Zq => rfl)); intro _; unfold LCg.FinE; intro _ _ _ _ _ _; (try dsimp only)))
  unfold InnerAt Gives
  intro dp un gd cn cs a₉ ccd cl outer A₀ base h₀ L m s Q E B F X N T hk hd hu hret
  refine wpAny_call ?_
  k_dflt ktr_enter
  rename Fr _ _ _ (fun y => List.lookup y _) => F9
  replace F9 : Fr _ _ _ (fun y => ([(Str.ofString "s", .ref a)] : List (Str × Value)).lookup y) := F9
  k_steps
  rename News h₀ L _ _ => kN9
  rename Fr h₀ L _ _ => kF9
  rename LCg.Off1 _ _ => o9
  exact hret _ _ _ _ kF9 (newsSub kN9 fun p hp => (List.mem_cons.mp hp).elim (fun e => e ▸ .head _) fun hp => .tail _ (by repeat' (first | exact hp | apply List.Mem.tail))) ⟨_, rfl, fun p hp => off1_mem o9 p (by repeat' (first | exact hp | apply List.Mem.tail)), rfl⟩
set_option maxHeartbeats 4000000 in
theorem inner_k13 (prog : Program) (w : World) (mean : ExcName → Option Value) (mg mb : Str → Option Value) {news : Led} {a b c e q r : Addr} {vs : List Value} {v v1 v2 sh : Value} {x : Int} {t1 t2 : Tok} (h : (a, tup [.str (Str.ofString "delay") t1, .int x t2, sh, v]) ∈ news) : InnerAt prog w mean mg mb a [v] news := by
  w_top off
  k_with_none
  (k_with "nepick" => (first | (refine Nat.ne_of_lt ?_; first | exact Mine.pl_0 (by with_reducible assumption) | exact Mine.pl_1 (by with_reducible assumption) | exact Mine.pl_2 (by with_reducible assumption) | exact Mine.pl_3 (by with_reducible assumption) | exact Mine.pl_4 (by with_reducible assumption) | exact Mine.pl_5 (by with_reducible assumption) | exact Mine.pl_6 (by with_reducible assumption) | exact Mine.pl_7 (by with_reducible assumption) | exact Mine.pl_8 (by with_reducible assumption) | exact Mine.pl_9 (by with_reducible assumption) | exact Mine.pl_10 (by with_reducible assumption) | exact Mine.pl_11 (by with_reducible assumption) | exact Mine.pl_12 (by with_reducible assumption) | exact Mine.pl_13 (by with_reducible assumption) | exact Mine.pl_14 (by with_reducible assumption) | exact Mine.pl_15 (by with_reducible assumption) | exact Mine.pl_16 (by with_reducible assumption) | (refine Nat.lt_succ_of_lt ?_; first | exact Mine.pl_0 (by with_reducible assumption) | exact Mine.pl_1 (by with_reducible assumption) | exact Mine.pl_2 (by with_reducible assumption) | (refine Nat.lt_succ_of_lt ?_; first | exact Mine.pl_0 (by with_reducible assumption) | exact Mine.pl_1 (by with_reducible assumption) | exact Mine.pl_2 (by with_reducible assumption) | (refine Nat.lt_succ_of_lt ?_; first | exact Mine.pl_0 (by with_reducible assumption) | exact Mine.pl_1 (by with_reducible assumption) | exact Mine.pl_2 (by with_reducible assumption) | (refine Nat.lt_succ_of_lt ?_; first | exact Mine.pl_0 (by with_reducible assumption) | exact Mine.pl_1 (by with_reducible assumption) | exact Mine.pl_2 (by with_reducible assumption) | (refine Nat.lt_succ_of_lt ?_; first | exact Mine.pl_0 (by with_reducible assumption) | exact Mine.pl_1 (by with_reducible assumption) | exact Mine.pl_2 (by with_reducible assumption))))))) | (refine Ne.symm (Nat.ne_of_lt ?_); first | exact Mine.pl_0 (by with_reducible assumption) | exact Mine.pl_1 (by with_reducible assumption) | exact Mine.pl_2 (by with_reducible assumption) | exact Mine.pl_3 (by with_reducible assumption) | exact Mine.pl_4 (by with_reducible assumption) | exact Mine.pl_5 (by with_reducible assumption) | exact Mine.pl_6 (by with_reducible assumption) | exact Mine.pl_7 (by with_reducible assumption) | exact Mine.pl_8 (by with_reducible assumption) | exact Mine.pl_9 (by with_reducible assumption) | exact Mine.pl_10 (by with_reducible assumption) | exact Mine.pl_11 (by with_reducible assumption) | exact Mine.pl_12 (by with_reducible assumption) | exact Mine.pl_13 (by with_reducible assumption) | exact Mine.pl_14 (by with_reducible assumption) | exact Mine.pl_15 (by with_reducible assumption) | exact Mine.pl_16 (by with_reducible assumption))))
  (k_with "@units_room" => (have hcL' := cLine_is; simp only [units_in1, units_deeper, Around.mark_units]; dsimp only [ktrTop]; omega))
  (k_with "@k_all" => assumption)
  (k_with "@k_ne" => (refine neN ?_; (try dsimp only); first | with_reducible assumption | (refine Ne.symm ?_; with_reducible assumption) | k_extra "nepick"))
  (k_with "@k_mem" => (refine List.mem_cons_of_mem _ ?_; k_mem))
  (k_with "subscriptTail" => (k_here; (with_reducible show wpAny _ _ (subscriptTail _ _ (Value.ref _) (Value.int _ _)) _ _ _); k_dflt (refine' my_tup (by k_asm) (by k_mem) (by decide) (by decide) ?hxZq ?_; (case hxZq => exact rfl)); (try dsimp only)))
  (k_with "subscriptTail" => (k_here; (with_reducible show wpAny _ _ (subscriptTail _ (PySem.Expr.Slice _ _ _ _) (Value.ref _) (Value.ref _)) _ _ _); k_dflt (refine' my_slice (a := _) (b := _) ?FZq ?NZq ?mZq (Nat.le_of_ble_eq_true rfl) (Nat.le_of_ble_eq_true rfl) ?leZq ?zZq ?_; (case FZq => k_asm); (case NZq => k_asm); (case mZq => k_mem); (case leZq => exact Nat.le_of_ble_eq_true rfl); (case zZq => exact Nat.le_of_ble_eq_true rfl)); intro _ _ _ _ l1Zq; (try k_lt l1Zq); (try dsimp only)))
  (k_with "eval ListComp" => (k_here; k_dflt (refine ListComp_tupT (by k_asm) (by with_unfolding_all rfl) (by decide) (by rfl) (by decide) (by rfl) ?_)))
  (k_with "SrcTT" => (k_here; k_dflt (refine' filt_srcT ?k1Zq ?k2Zq ?k3Zq ?k4Zq ?k5Zq ?k6Zq ?k7Zq ?k8Zq ?_; (case k1Zq => rfl); (case k2Zq => k_asm); (case k3Zq => k_asm); (case k4Zq => k_mem); (case k5Zq => first | omega | (simp only [List.length_cons, List.length_nil]; omega) | exact Nat.le_of_ble_eq_true rfl); (case k6Zq => (intro _; rfl)); (case k7Zq => (intro _; rfl)); (case k8Zq => rfl)); intro _; unfold LCg.FinE; intro _ _ _ _ _ _; (try dsimp only)))
  unfold InnerAt Gives
  intro dp un gd cn cs a₉ ccd cl outer A₀ base h₀ L m s Q E B F X N T hk hd hu hret
  refine wpAny_call ?_
  k_dflt ktr_enter
  rename Fr _ _ _ (fun y => List.lookup y _) => F9
  replace F9 : Fr _ _ _ (fun y => ([(Str.ofString "s", .ref a)] : List (Str × Value)).lookup y) := F9
  k_steps
  rename News h₀ L _ _ => kN9
  rename Fr h₀ L _ _ => kF9
  rename LCg.Off1 _ _ => o9
  exact hret _ _ _ _ kF9 (newsSub kN9 fun p hp => (List.mem_cons.mp hp).elim (fun e => e ▸ .head _) fun hp => .tail _ (by repeat' (first | exact hp | apply List.Mem.tail))) ⟨_, rfl, fun p hp => off1_mem o9 p (by repeat' (first | exact hp | apply List.Mem.tail)), rfl⟩
set_option maxHeartbeats 4000000 in
theorem inner_k14 (prog : Program) (w : World) (mean : ExcName → Option Value) (mg mb : Str → Option Value) {news : Led} {a b c e q r : Addr} {vs : List Value} {v v1 v2 sh : Value} {x : Int} {t1 t2 : Tok} (h : (a, tup [.str (Str.ofString "await") t1, .int x t2, sh, v]) ∈ news) : InnerAt prog w mean mg mb a [v] news := by
  w_top off
  k_with_none
  (k_with "nepick" => (first | (refine Nat.ne_of_lt ?_; first | exact Mine.pl_0 (by with_reducible assumption) | exact Mine.pl_1 (by with_reducible assumption) | exact Mine.pl_2 (by with_reducible assumption) | exact Mine.pl_3 (by with_reducible assumption) | exact Mine.pl_4 (by with_reducible assumption) | exact Mine.pl_5 (by with_reducible assumption) | exact Mine.pl_6 (by with_reducible assumption) | exact Mine.pl_7 (by with_reducible assumption) | exact Mine.pl_8 (by with_reducible assumption) | exact Mine.pl_9 (by with_reducible assumption) | exact Mine.pl_10 (by with_reducible assumption) | exact Mine.pl_11 (by with_reducible assumption) | exact Mine.pl_12 (by with_reducible assumption) | exact Mine.pl_13 (by with_reducible assumption) | exact Mine.pl_14 (by with_reducible assumption) | exact Mine.pl_15 (by with_reducible assumption) | exact Mine.pl_16 (by with_reducible assumption) | (refine Nat.lt_succ_of_lt ?_; first | exact Mine.pl_0 (by with_reducible assumption) | exact Mine.pl_1 (by with_reducible assumption) | exact Mine.pl_2 (by with_reducible assumption) | (refine Nat.lt_succ_of_lt ?_; first | exact Mine.pl_0 (by with_reducible assumption) | exact Mine.pl_1 (by with_reducible assumption) | exact Mine.pl_2 (by with_reducible assumption) | (refine Nat.lt_succ_of_lt ?_; first | exact Mine.pl_0 (by with_reducible assumption) | exact Mine.pl_1 (by with_reducible assumption) | exact Mine.pl_2 (by with_reducible assumption) | (refine Nat.lt_succ_of_lt ?_; first | exact Mine.pl_0 (by with_reducible assumption) | exact Mine.pl_1 (by with_reducible assumption) | exact Mine.pl_2 (by with_reducible assumption) | (refine Nat.lt_succ_of_lt ?_; first | exact Mine.pl_0 (by with_reducible assumption) | exact Mine.pl_1 (by with_reducible assumption) | exact Mine.pl_2 (by with_reducible assumption))))))) | (refine Ne.symm (Nat.ne_of_lt ?_); first | exact Mine.pl_0 (by with_reducible assumption) | exact Mine.pl_1 (by with_reducible assumption) | exact Mine.pl_2 (by with_reducible assumption) | exact Mine.pl_3 (by with_reducible assumption) | exact Mine.pl_4 (by with_reducible assumption) | exact Mine.pl_5 (by with_reducible assumption) | exact Mine.pl_6 (by with_reducible assumption) | exact Mine.pl_7 (by with_reducible assumption) | exact Mine.pl_8 (by with_reducible assumption) | exact Mine.pl_9 (by with_reducible assumption) | exact Mine.pl_10 (by with_reducible assumption) | exact Mine.pl_11 (by with_reducible assumption) | exact Mine.pl_12 (by with_reducible assumption) | exact Mine.pl_13 (by with_reducible assumption) | exact Mine.pl_14 (by with_reducible assumption) | exact Mine.pl_15 (by with_reducible assumption) | exact Mine.pl_16 (by with_reducible assumption))))
  (k_with "@units_room" => (have hcL' := cLine_is; simp only [units_in1, units_deeper, Around.mark_units]; dsimp only [ktrTop]; omega))
  (k_with "@k_all" => assumption)
  (k_with "@k_ne" => (refine neN ?_; (try dsimp only); first | with_reducible assumption | (refine Ne.symm ?_; with_reducible assumption) | k_extra "nepick"))
  (k_with "@k_mem" => (refine List.mem_cons_of_mem _ ?_; k_mem))
  (k_with "subscriptTail" => (k_here; (with_reducible show wpAny _ _ (subscriptTail _ _ (Value.ref _) (Value.int _ _)) _ _ _); k_dflt (refine' my_tup (by k_asm) (by k_mem) (by decide) (by decide) ?hxZq ?_; (case hxZq => exact rfl)); (try dsimp only)))
  (k_with "subscriptTail" => (k_here; (with_reducible show wpAny _ _ (subscriptTail _ (PySem.Expr.Slice _ _ _ _) (Value.ref _) (Value.ref _)) _ _ _); k_dflt (refine' my_slice (a := _) (b := _) ?FZq ?NZq ?mZq (Nat.le_of_ble_eq_true rfl) (Nat.le_of_ble_eq_true rfl) ?leZq ?zZq ?_; (case FZq => k_asm); (case NZq => k_asm); (case mZq => k_mem); (case leZq => exact Nat.le_of_ble_eq_true rfl); (case zZq => exact Nat.le_of_ble_eq_true rfl)); intro _ _ _ _ l1Zq; (try k_lt l1Zq); (try dsimp only)))
  (k_with "eval ListComp" => (k_here; k_dflt (refine ListComp_tupT (by k_asm) (by with_unfolding_all rfl) (by decide) (by rfl) (by decide) (by rfl) ?_)))
  (k_with "SrcTT" => (k_here; k_dflt (refine' filt_srcT ?k1Zq ?k2Zq ?k3Zq ?k4Zq ?k5Zq ?k6Zq ?k7Zq ?k8Zq ?_; (case k1Zq => rfl); (case k2Zq => k_asm); (case k3Zq => k_asm); (case k4Zq => k_mem); (case k5Zq => first | omega | (simp only [List.length_cons, List.length_nil]; omega) | exact Nat.le_of_ble_eq_true rfl); (case k6Zq => (intro _; rfl)); (case k7Zq => (intro _; rfl)); (case k8Zq => rfl)); intro _; unfold LCg.FinE; intro _ _ _ _ _ _; (try dsimp only)))
  unfold InnerAt Gives
  intro dp un gd cn cs a₉ ccd cl outer A₀ base h₀ L m s Q E B F X N T hk hd hu hret
  refine wpAny_call ?_
  k_dflt ktr_enter
  rename Fr _ _ _ (fun y => List.lookup y _) => F9
  replace F9 : Fr _ _ _ (fun y => ([(Str.ofString "s", .ref a)] : List (Str × Value)).lookup y) := F9
  k_steps
  rename News h₀ L _ _ => kN9
  rename Fr h₀ L _ _ => kF9
  rename LCg.Off1 _ _ => o9
  exact hret _ _ _ _ kF9 (newsSub kN9 fun p hp => (List.mem_cons.mp hp).elim (fun e => e ▸ .head _) fun hp => .tail _ (by repeat' (first | exact hp | apply List.Mem.tail))) ⟨_, rfl, fun p hp => off1_mem o9 p (by repeat' (first | exact hp | apply List.Mem.tail)), rfl⟩
set_option maxHeartbeats 4000000 in
theorem inner_k15 (prog : Program) (w : World) (mean : ExcName → Option Value) (mg mb : Str → Option Value) {news : Led} {a b c e q r : Addr} {vs : List Value} {v v1 v2 sh : Value} {x : Int} {t1 t2 : Tok} (h : (a, tup [.str (Str.ofString "wait") t1, .int x t2, sh, v]) ∈ news) : InnerAt prog w mean mg mb a [v] news := by
  w_top off
  k_with_none
  (k_with "nepick" => (first | (refine Nat.ne_of_lt ?_; first | exact Mine.pl_0 (by with_reducible assumption) | exact Mine.pl_1 (by with_reducible assumption) | exact Mine.pl_2 (by with_reducible assumption) | exact Mine.pl_3 (by with_reducible assumption) | exact Mine.pl_4 (by with_reducible assumption) | exact Mine.pl_5 (by with_reducible assumption) | exact Mine.pl_6 (by with_reducible assumption) | exact Mine.pl_7 (by with_reducible assumption) | exact Mine.pl_8 (by with_reducible assumption) | exact Mine.pl_9 (by with_reducible assumption) | exact Mine.pl_10 (by with_reducible assumption) | exact Mine.pl_11 (by with_reducible assumption) | exact Mine.pl_12 (by with_reducible assumption) | exact Mine.pl_13 (by with_reducible assumption) | exact Mine.pl_14 (by with_reducible assumption) | exact Mine.pl_15 (by with_reducible assumption) | exact Mine.pl_16 (by with_reducible assumption) | (refine Nat.lt_succ_of_lt ?_; first | exact Mine.pl_0 (by with_reducible assumption) | exact Mine.pl_1 (by with_reducible assumption) | exact Mine.pl_2 (by with_reducible assumption) | (refine Nat.lt_succ_of_lt ?_; first | exact Mine.pl_0 (by with_reducible assumption) | exact Mine.pl_1 (by with_reducible assumption) | exact Mine.pl_2 (by with_reducible assumption) | (refine Nat.lt_succ_of_lt ?_; first | exact Mine.pl_0 (by with_reducible assumption) | exact Mine.pl_1 (by with_reducible assumption) | exact Mine.pl_2 (by with_reducible assumption) | (refine Nat.lt_succ_of_lt ?_; first | exact Mine.pl_0 (by with_reducible assumption) | exact Mine.pl_1 (by with_reducible assumption) | exact Mine.pl_2 (by with_reducible assumption) | (refine Nat.lt_succ_of_lt ?_; first | exact Mine.pl_0 (by with_reducible assumption) | exact Mine.pl_1 (by with_reducible assumption) | exact Mine.pl_2 (by with_reducible assumption))))))) | (refine Ne.symm (Nat.ne_of_lt ?_); first | exact Mine.pl_0 (by with_reducible assumption) | exact Mine.pl_1 (by with_reducible assumption) | exact Mine.pl_2 (by with_reducible assumption) | exact Mine.pl_3 (by with_reducible assumption) | exact Mine.pl_4 (by with_reducible assumption) | exact Mine.pl_5 (by with_reducible assumption) | exact Mine.pl_6 (by with_reducible assumption) | exact Mine.pl_7 (by with_reducible assumption) | exact Mine.pl_8 (by with_reducible assumption) | exact Mine.pl_9 (by with_reducible assumption) | exact Mine.pl_10 (by with_reducible assumption) | exact Mine.pl_11 (by with_reducible assumption) | exact Mine.pl_12 (by with_reducible assumption) | exact Mine.pl_13 (by with_reducible assumption) | exact Mine.pl_14 (by with_reducible assumption) | exact Mine.pl_15 (by with_reducible assumption) | exact Mine.pl_16 (by with_reducible assumption))))
  (k_with "@units_room" => (have hcL' := cLine_is; simp only [units_in1, units_deeper, Around.mark_units]; dsimp only [ktrTop]; omega))
  (k_with "@k_all" => assumption)
  (k_with "@k_ne" => (refine neN ?_; (try dsimp only); first | with_reducible assumption | (refine Ne.symm ?_; with_reducible assumption) | k_extra "nepick"))
  (k_with "@k_mem" => (refine List.mem_cons_of_mem _ ?_; k_mem))
  (k_with "subscriptTail" => (k_here; (with_reducible show wpAny _ _ (subscriptTail _ _ (Value.ref _) (Value.int _ _)) _ _ _); k_dflt (refine' my_tup (by k_asm) (by k_mem) (by decide) (by decide) ?hxZq ?_; (case hxZq => exact rfl)); (try dsimp only)))
  (k_with "subscriptTail" => (k_here; (with_reducible show wpAny _ _ (subscriptTail _ (PySem.Expr.Slice _ _ _ _) (Value.ref _) (Value.ref _)) _ _ _); k_dflt (refine' my_slice (a := _) (b := _) ?FZq ?NZq ?mZq (Nat.le_of_ble_eq_true rfl) (Nat.le_of_ble_eq_true rfl) ?leZq ?zZq ?_; (case FZq => k_asm); (case NZq => k_asm); (case mZq => k_mem); (case leZq => exact Nat.le_of_ble_eq_true rfl); (case zZq => exact Nat.le_of_ble_eq_true rfl)); intro _ _ _ _ l1Zq; (try k_lt l1Zq); (try dsimp only)))
  (k_with "eval ListComp" => (k_here; k_dflt (refine ListComp_tupT (by k_asm) (by with_unfolding_all rfl) (by decide) (by rfl) (by decide) (by rfl) ?_)))
  (k_with "SrcTT" => (k_here; k_dflt (refine' filt_srcT ?k1Zq ?k2Zq ?k3Zq ?k4Zq ?k5Zq ?k6Zq ?k7Zq ?k8Zq ?_; (case k1Zq => rfl); (case k2Zq => k_asm); (case k3Zq => k_asm); (case k4Zq => k_mem); (case k5Zq => first | omega | (simp only [List.length_cons, List.length_nil]; omega) | exact Nat.le_of_ble_eq_true rfl); (case k6Zq => (intro _; rfl)); (case k7Zq => (intro _; rfl)); (case k8Zq => rfl)); intro _; unfold LCg.FinE; intro _ _ _ _ _ _; (try dsimp only)))
  unfold InnerAt Gives
  intro dp un gd cn cs a₉ ccd cl outer A₀ base h₀ L m s Q E B F X N T hk hd hu hret
  refine wpAny_call ?_
  k_dflt ktr_enter
  rename Fr _ _ _ (fun y => List.lookup y _) => F9
  replace F9 : Fr _ _ _ (fun y => ([(Str.ofString "s", .ref a)] : List (Str × Value)).lookup y) := F9
  k_steps
  rename News h₀ L _ _ => kN9
  rename Fr h₀ L _ _ => kF9
  rename LCg.Off1 _ _ => o9
  exact hret _ _ _ _ kF9 (newsSub kN9 fun p hp => (List.mem_cons.mp hp).elim (fun e => e ▸ .head _) fun hp => .tail _ (by repeat' (first | exact hp | apply List.Mem.tail))) ⟨_, rfl, fun p hp => off1_mem o9 p (by repeat' (first | exact hp | apply List.Mem.tail)), rfl⟩
end
end Mine
end

section
open PySem PySem.W PyProof.Rows PySem.Calls PySem.Spec
set_option maxRecDepth 100000
namespace Mine
theorem RowsAt.get {news : Led} {rows vs : List Value} (h : RowsAt news rows vs) : ∀ (i : Nat) v, rows[i]? = some v → ∃ (p q : Addr) (u : Value), v = Value.ref p ∧ (p, tup [.ref q, u]) ∈ news ∧ vs[i]? = some u := by
  induction h with
  | nil => intro i v h; simp at h
  | @cons p q sh u rows vs h1 h2 h3 h4 ih =>
    intro i v h
    cases i with
    | zero => simp at h; exact ⟨p, q, u, h.symm, h1, rfl⟩
    | succ i => exact ih i v (by simpa using h)
set_option maxHeartbeats 4000000 in
theorem inner_k7 (prog : Program) (w : World) (mean : ExcName → Option Value) (mg mb : Str → Option Value) {news : Led} {a r : Addr} {rows vs : List Value} {sh : Value} {x : Int} {t1 t2 t3 : Tok}
    (h : (a, tup [.str (Str.ofString "case") t1, .int x t2, .str (Str.ofString "case") t3, sh, .ref r]) ∈ news) (hr : (r, tup rows) ∈ news) (hl : rows.length ≤ 3) (hv : RowsAt news rows vs) : InnerAt prog w mean mg mb a vs news := by
  w_top off
  k_with_none
  (k_with "nepick" => (first | (refine Nat.ne_of_lt ?_; first | exact Mine.pl_0 (by with_reducible assumption) | exact Mine.pl_1 (by with_reducible assumption) | exact Mine.pl_2 (by with_reducible assumption) | exact Mine.pl_3 (by with_reducible assumption) | exact Mine.pl_4 (by with_reducible assumption) | exact Mine.pl_5 (by with_reducible assumption) | exact Mine.pl_6 (by with_reducible assumption) | exact Mine.pl_7 (by with_reducible assumption) | exact Mine.pl_8 (by with_reducible assumption) | exact Mine.pl_9 (by with_reducible assumption) | exact Mine.pl_10 (by with_reducible assumption) | exact Mine.pl_11 (by with_reducible assumption) | exact Mine.pl_12 (by with_reducible assumption) | exact Mine.pl_13 (by with_reducible assumption) | exact Mine.pl_14 (by with_reducible assumption) | exact Mine.pl_15 (by with_reducible assumption) | exact Mine.pl_16 (by with_reducible assumption) | (refine Nat.lt_succ_of_lt ?_; first | exact Mine.pl_0 (by with_reducible assumption) | exact Mine.pl_1 (by with_reducible assumption) | exact Mine.pl_2 (by with_reducible assumption) | (refine Nat.lt_succ_of_lt ?_; first | exact Mine.pl_0 (by with_reducible assumption) | exact Mine.pl_1 (by with_reducible assumption) | exact Mine.pl_2 (by with_reducible assumption) | (refine Nat.lt_succ_of_lt ?_; first | exact Mine.pl_0 (by with_reducible assumption) | exact Mine.pl_1 (by with_reducible assumption) | exact Mine.pl_2 (by with_reducible assumption) | (refine Nat.lt_succ_of_lt ?_; first | exact Mine.pl_0 (by with_reducible assumption) | exact Mine.pl_1 (by with_reducible assumption) | exact Mine.pl_2 (by with_reducible assumption) | (refine Nat.lt_succ_of_lt ?_; first | exact Mine.pl_0 (by with_reducible assumption) | exact Mine.pl_1 (by with_reducible assumption) | exact Mine.pl_2 (by with_reducible assumption))))))) | (refine Ne.symm (Nat.ne_of_lt ?_); first | exact Mine.pl_0 (by with_reducible assumption) | exact Mine.pl_1 (by with_reducible assumption) | exact Mine.pl_2 (by with_reducible assumption) | exact Mine.pl_3 (by with_reducible assumption) | exact Mine.pl_4 (by with_reducible assumption) | exact Mine.pl_5 (by with_reducible assumption) | exact Mine.pl_6 (by with_reducible assumption) | exact Mine.pl_7 (by with_reducible assumption) | exact Mine.pl_8 (by with_reducible assumption) | exact Mine.pl_9 (by with_reducible assumption) | exact Mine.pl_10 (by with_reducible assumption) | exact Mine.pl_11 (by with_reducible assumption) | exact Mine.pl_12 (by with_reducible assumption) | exact Mine.pl_13 (by with_reducible assumption) | exact Mine.pl_14 (by with_reducible assumption) | exact Mine.pl_15 (by with_reducible assumption) | exact Mine.pl_16 (by with_reducible assumption))))
  (k_with "@units_room" => (have hcL' := cLine_is; simp only [units_in1, units_deeper, Around.mark_units]; dsimp only [ktrTop]; omega))
  (k_with "@k_all" => assumption)
  (k_with "@k_ne" => (refine neN ?_; (try dsimp only); first | with_reducible assumption | (refine Ne.symm ?_; with_reducible assumption) | k_extra "nepick"))
  (k_with "@k_mem" => (refine List.mem_cons_of_mem _ ?_; k_mem))
  (k_with "subscriptTail" => (k_here; (with_reducible show wpAny _ _ (subscriptTail _ _ (Value.ref _) (Value.int _ _)) _ _ _); k_dflt (refine' my_tup (by k_asm) (by k_mem) (by decide) (by decide) ?hxZq ?_; (case hxZq => exact rfl)); (try dsimp only)))
  (k_with "eval ListComp" => (k_here; (with_reducible show wpAny _ _ (eval (PySem.Expr.ListComp _ [⟨_, PySem.Expr.Subscript _ _ _, _, _⟩] _ _) _) _ _ _); k_dflt (refine ListComp_tupU (by k_asm) (by with_unfolding_all rfl) (by decide) (by rfl) (by decide) (by rfl) ?_)))
  (k_with "exec Assign cons ListComp" => (k_here; k_dflt (refine Assign_tupU (by k_asm) (by rfl) (by with_unfolding_all rfl) (by with_unfolding_all rfl) (by decide) (by rfl) (by decide) (by rfl) (by rfl) (by rfl) ?_)))
  (k_with "SrcTU" => (refine Blk.mk ?_))
  (k_with "CompSrcT" => (k_here; k_dflt (refine' filt_src ?k1Zq ?k2Zq ?k3Zq ?k4Zq ?k5Zq ?k6Zq ?k7Zq ?k8Zq ?_; (case k1Zq => rfl); (case k2Zq => k_asm); (case k3Zq => k_asm); (case k4Zq => k_mem); (case k5Zq => (first | omega | (rw [List.length_take]; omega))); (case k6Zq => (intro _; rfl)); (case k7Zq => (intro _; rfl)); (case k8Zq => rfl)); intro _; unfold LCg.FinE; intro _ _ _ _ _ _; (try dsimp only)))
  unfold InnerAt Gives
  intro dp un gd cn cs a₉ ccd cl outer A₀ base h₀ L m s Q E B F X N T hk hd hu hret
  refine wpAny_call ?_
  k_dflt ktr_enter
  rename Fr _ _ _ (fun y => List.lookup y _) => F9
  replace F9 : Fr _ _ _ (fun y => ([(Str.ofString "s", .ref a)] : List (Str × Value)).lookup y) := F9
  k_steps
  refine Blk.out ?_
  rename News _ _ _ ((_, _) :: news) => N9
  rename Fr _ _ _ (fun y => if y = Str.ofString "parts" then _ else _) => F9
  refine ⟨r, rows, _, rfl, rfl, F9, N9, .tail _ hr, by omega, fun g => ?_⟩
  refine compRest_inv (fun i ys nw => ys = vs.take i ∧ nw = _) (n := rows.length) ?_ ?_ rows.length 0 [] _ (by omega) ⟨rfl, rfl⟩
  · rintro i ys nw v I oI C oC D m₂ h₂ tk E' hi ⟨rfl, rfl⟩ hp hC hx F N off ne
    obtain ⟨p, q, u, rfl, hm, hu⟩ := hv.get i v hp
    k_steps
    refine LCg.CompEnd.intro F N _ (fun _ h => h) off (.tail _ hr) ⟨?_, rfl⟩
    rw [List.take_add_one, hu]; rfl
  · rintro ys nw ⟨rfl, rfl⟩
    unfold LCg.FinA
    intro D0 h0 tk0 F0 N0 o0
    have hD0 := off1_mem o0
    clear o0
    dsimp only
    k_steps
    rename News h₀ L _ _ => kN9
    rename Fr h₀ L _ _ => kF9
    rename LCg.Off1 _ _ => o9
    have e9 : List.take rows.length vs = vs := by rw [hv.length, List.take_length]
    rw [e9] at kN9
    exact hret _ _ _ _ kF9 (newsSub kN9 fun p hp => (List.mem_cons.mp hp).elim (fun e => e ▸ .head _) fun hp => .tail _ (by repeat' (first | exact hp | apply List.Mem.tail))) ⟨_, rfl, fun p hp => off1_mem o9 p (by repeat' (first | exact hp | apply List.Mem.tail)), rfl⟩

/-- inner_statements upon a node, whatever its kind -/
theorem inner (prog : Program) (w : World) (mean : ExcName → Option Value) (mg mb : Str → Option Value) {news : Led} {a : Addr} {k i : Nat} {us : List Value} (h : NodeAt news a k i us) : InnerAt prog w mean mg mb a us news := by
  cases h with
  | leaf hk h hb hc he =>
    have : k = 0 ∨ k = 1 ∨ k = 2 ∨ k = 3 ∨ k = 4 := by omega
    rcases this with rfl | rfl | rfl | rfl | rfl
    · exact inner_k0 prog w mean mg mb h (e := a) (q := a) (r := a) (vs := []) (v := .none) (v1 := .none) (v2 := .none) (sh := .none)
    · exact inner_k1 prog w mean mg mb h (e := a) (q := a) (r := a) (vs := []) (v := .none) (v1 := .none) (v2 := .none) (sh := .none)
    · exact inner_k2 prog w mean mg mb h (e := a) (q := a) (r := a) (vs := []) (v := .none) (v1 := .none) (v2 := .none) (sh := .none)
    · exact inner_k3 prog w mean mg mb h (e := a) (q := a) (r := a) (vs := []) (v := .none) (v1 := .none) (v2 := .none) (sh := .none)
    · exact inner_k4 prog w mean mg mb h (e := a) (q := a) (r := a) (vs := []) (v := .none) (v1 := .none) (v2 := .none) (sh := .none)
  | blk hk h hs hq hr hl =>
    rcases hk with rfl | rfl
    · exact inner_k5 prog w mean mg mb h hr hl (b := a) (c := a) (e := a) (v := .none) (v1 := .none) (v2 := .none) (sh := .none)
    · exact inner_k6 prog w mean mg mb h hr hl (b := a) (c := a) (e := a) (v := .none) (v1 := .none) (v2 := .none) (sh := .none)
  | cas h hs hr hl hv => exact inner_k7 prog w mean mg mb h hr hl hv
  | iff h hs => exact inner_k8 prog w mean mg mb h (b := a) (c := a) (e := a) (q := a) (r := a) (vs := []) (v := .none)
  | rng h h1 h2 hs1 hs2 hs3 hs4 hs5 => exact inner_k9 prog w mean mg mb h (b := a) (c := a) (e := a) (vs := []) (v1 := .none) (v2 := .none)
  | fev h => exact inner_k10 prog w mean mg mb h (b := a) (c := a) (e := a) (q := a) (r := a) (vs := []) (v1 := .none) (v2 := .none) (sh := .none)
  | one hk hk2 h hs =>
    have : k = 11 ∨ k = 12 ∨ k = 13 ∨ k = 14 ∨ k = 15 := by omega
    rcases this with rfl | rfl | rfl | rfl | rfl
    · exact inner_k11 prog w mean mg mb h (b := a) (c := a) (e := a) (q := a) (r := a) (vs := []) (v1 := .none) (v2 := .none)
    · exact inner_k12 prog w mean mg mb h (b := a) (c := a) (e := a) (q := a) (r := a) (vs := []) (v1 := .none) (v2 := .none)
    · exact inner_k13 prog w mean mg mb h (b := a) (c := a) (e := a) (q := a) (r := a) (vs := []) (v1 := .none) (v2 := .none)
    · exact inner_k14 prog w mean mg mb h (b := a) (c := a) (e := a) (q := a) (r := a) (vs := []) (v1 := .none) (v2 := .none)
    · exact inner_k15 prog w mean mg mb h (b := a) (c := a) (e := a) (q := a) (r := a) (vs := []) (v1 := .none) (v2 := .none)
end Mine
end

section
open PySem PySem.W PyProof.Rows PySem.Calls PySem.Spec
set_option maxRecDepth 100000
namespace Mine
theorem slot_rev_next : Slot "reversed" "__next__" "reversed.__next__" :=
  .of (owner := "reversed") (n := "__next__") (by rw [typeLookup_type, builtinLookup_eq_fast]; kernel_rfl) (by decide +kernel) (by decide +kernel) (by decide +kernel)
    (by first | exact .inl (by decide +kernel) | exact .inr (by decide +kernel)) (by rw [isSubtype_type]; kernel_rfl)
theorem entry_rev_next : entryFor table "reversed.__next__" = some Builtin.«reversed.__next__» := entryFor_of_tree (by kernel_rfl)
theorem args_rev_next (a : Value) : argsOk "reversed.__next__" ⟨[a], []⟩ := by unfold argsOk; kernel_rfl
theorem slot_rev_iter : Slot "reversed" "__iter__" "reversed.__iter__" :=
  .of (owner := "reversed") (n := "__iter__") (by rw [typeLookup_type, builtinLookup_eq_fast]; kernel_rfl) (by decide +kernel) (by decide +kernel) (by decide +kernel)
    (by first | exact .inl (by decide +kernel) | exact .inr (by decide +kernel)) (by rw [isSubtype_type]; kernel_rfl)
theorem entry_rev_iter : entryFor table "reversed.__iter__" = some Builtin.«dict_keyiterator.__iter__» :=
  entryFor_alias (id' := "dict_keyiterator.__iter__") (by kernel_rfl) (by first | rfl | decide +kernel | (unfold String.splitOn; simp +decide [String.splitOnAux])) (by decide +kernel) (by kernel_rfl)
theorem args_rev_iter (a : Value) : argsOk "reversed.__iter__" ⟨[a], []⟩ := by unfold argsOk; kernel_rfl
theorem slot_rev_hint : Slot "reversed" "__length_hint__" "reversed.__length_hint__" :=
  .of (owner := "reversed") (n := "__length_hint__") (by rw [typeLookup_type, builtinLookup_eq_fast]; kernel_rfl) (by decide +kernel) (by decide +kernel) (by decide +kernel)
    (by first | exact .inl (by decide +kernel) | exact .inr (by decide +kernel)) (by rw [isSubtype_type]; kernel_rfl)
theorem entry_rev_hint : entryFor table "reversed.__length_hint__" = some Builtin.«reversed.__length_hint__» := entryFor_of_tree (by kernel_rfl)
theorem args_rev_hint (a : Value) : argsOk "reversed.__length_hint__" ⟨[a], []⟩ := by unfold argsOk; kernel_rfl
theorem nolen_rev : typeLookup (.type "reversed") "__len__" = pure none := by rw [typeLookup_type, builtinLookup_eq_fast]; kernel_rfl
theorem norev_tuple : typeLookup (.type "tuple") "__reversed__" = pure none := by rw [typeLookup_type, builtinLookup_eq_fast]; kernel_rfl
theorem sub_tuple_dict : isSubtype (.type "tuple") (.type "dict") = pure false := by rw [isSubtype_type]; kernel_rfl
theorem newCall_rev (a : Value) : checkBuiltinCall "reversed.__new__" ⟨[.type "reversed", a], []⟩ = pure () := by kernel_rfl
theorem called_rev_init : typeLookup (.type "reversed") "__init__" = pure (some (.builtin "object.__init__")) := by rw [typeLookup_type, builtinLookup_eq_fast]; kernel_rfl
theorem mro_rev : mroOf (.type "reversed") = pure [.type "reversed", .type "object"] := by rw [mroOf_type]; kernel_rfl
theorem called_rev : TypeCalled "reversed" "reversed.__new__" "object.__init__" :=
  ⟨by decide +kernel, by decide +kernel, ⟨_, _, mro_rev⟩, PySem.F.made_reversed, by decide +kernel, PySem.F.sub_reversed_self,
    .of (owner := "object") (n := "__init__") (by rw [typeLookup_type, builtinLookup_eq_fast]; kernel_rfl) (by decide +kernel) (by decide +kernel) (by decide +kernel)
    (by first | exact .inl (by decide +kernel) | exact .inr (by decide +kernel)) (by rw [isSubtype_type]; kernel_rfl)⟩

end Mine
end

section
open PySem PySem.W PyProof.Rows PySem.Calls PySem.Spec
set_option maxRecDepth 100000
namespace Mine
noncomputable abbrev revTup (t : Addr) (i : Int) : Obj := { cls := .type "reversed", data := .fields #[.ref t, rawInt i] }

theorem meets_rev_new (t : Addr) (its : List Value) (hz : its.length ≤ 1000) : Meets (Builtin.«reversed.__new__» ⟨[.type "reversed", .ref t], []⟩) (fun _ R s => s.heap.get? t = some (tup its) ∧
    R (.ok (.ret (.ref s.heap.objs.size))) { s with heap := s.heap.push (revTup t ((its.length : Int) - 1)), toks := s.toks + 1 + 1 }) :=
  .of_wp fun prog w A R s h => by
    obtain ⟨ht, h⟩ := h
    have hT : s.TypeIs (.ref t) "tuple" := ⟨_, ht, rfl⟩
    have hI : IsTup s.heap t its.toArray := ⟨_, ht, rfl, _, rfl⟩
    unfold Builtin.«reversed.__new__»
    refine wpAny_bind (wpAny_of_eq (newClass_reversed _) ?_)
    try dsimp only
    refine wpAny_bind (wpAny_of_eq (a := ()) (by first | rfl | kernel_rfl) ?_)
    refine wpAny_bind (wpAny_of_eq (a := ()) (by first | rfl | kernel_rfl) ?_)
    try dsimp only
    refine wpAny_bind (wpAny_specialOf hT norev_tuple ?_)
    try dsimp only
    have hds := sub_tuple_dict
    have hgi := slot_tuple_getitem.lookup
    have hfit : ((its.toArray.size : Nat) : Int) < 2 ^ 63 := by rw [List.size_toArray]; omega
    wp_walk using len_tuple hI hfit
    refine ⟨_, rfl, ?_⟩
    rw [List.size_toArray]
    exact h

section
variable {prog : Program} {w : World} {A : Around} {E : Value → Shared → Prop} {s : Shared}
theorem call_rev {t : Addr} {its : List Value} {Q : Value → Shared → Prop} (hz : its.length ≤ 1000) (ht : s.heap.get? t = some (tup its))
    (h : Q (.ref s.heap.objs.size) { s with heap := s.heap.push (revTup t ((its.length : Int) - 1)), toks := s.toks + 1 + 1 }) : wpAny (model prog w) A (call (.type "reversed") [.ref t]) Q E s :=
  callType_new called_rev (by decide) (PySem.F.typeCall_reversed_1 _) (PySem.F.newCall_reversed_1 _) (fun obj => PySem.F.args_object_init_2 obj _) PySem.F.entry_reversed_new (meets_rev_new t its hz) ⟨ht, ⟨_, Heap.get?_push_size _ rfl, rfl⟩, h⟩

theorem revNext_item {it t : Addr} {i : Nat} {its : List Value} {x : Value} {Q : Option Value → Shared → Prop} (hit : s.heap.get? it = some (revTup t (i : Int))) (ht : s.heap.get? t = some (tup its)) (hx : its[i]? = some x) (hz : its.length ≤ 1000)
    (hQ : Q (some x) { s with heap := s.heap.update it (Obj.mapFields (·.setIfInBounds 1 (rawInt ((i : Int) - 1)))), toks := s.toks + 1 }) : wpAny (model prog w) A (pyNext (.ref it)) Q E s := by
  have hT : s.TypeIs (.ref it) "reversed" := ⟨_, hit, rfl⟩
  have hTt : s.TypeIs (.ref t) "tuple" := ⟨_, ht, rfl⟩
  have hi := (List.getElem?_eq_some_iff.mp hx).1
  unfold pyNext
  refine wpAny_bind (wpAny_attempt (wpAny_callSpecial?_slot (name := Str.ofString "__next__") hT slot_rev_next
    (wpAny_call_entry slot_rev_next hT entry_rev_next ?_ (args_rev_next _))))
  unfold Builtin.«reversed.__next__»
  refine wpAny_bind (wpAny_of_eq (a := (Value.ref it, [])) rfl ?_)
  try dsimp only
  refine wpAny_bind (wpAny_field hit rfl (x := .ref t) rfl ?_)
  refine wpAny_bind (wpAny_field hit rfl (x := rawInt (i : Int)) rfl ?_)
  show wpAny _ _ (if (i : Int) < 0 then _ else _) _ _ s
  rw [if_neg (by omega)]
  try dsimp only
  refine wpAny_bind (wpAny_specialOf hTt slot_tuple_getitem.lookup ?_)
  rw [if_neg (by decide)]
  refine wpAny_bind (wpAny_mkInt ?_)
  refine wpAny_bind (wpAny_attempt (getItem_tuple (j := i) ⟨_, ht, rfl, _, rfl⟩ (by omega) (by omega) ?_ (by rw [List.getElem?_toArray]; exact hx) ?_))
  · unfold seqIndex?
    simp only [Int.not_lt.mpr (Int.natCast_nonneg i), if_false]
    rw [if_pos (by rw [List.size_toArray]; simp only [Bool.and_eq_true, decide_eq_true_eq]; omega)]
    simp
  dsimp only
  refine wpAny_bind (wpAny_field (s := { s with toks := s.toks + 1 }) hit rfl (x := rawInt (i : Int)) rfl ?_)
  show wpAny _ _ (setField (.ref it) 1 (rawInt ((i : Int) - 1)) >>= _) _ _ _
  refine wpAny_bind (wpAny_setField (s := { s with toks := s.toks + 1 }) hit rfl (by simp) ?_)
  first
  | exact wpAny_pure ⟨x, rfl, wpAny_pure hQ⟩
  | exact wpAny_bind (wpAny_pure (wpAny_pure ⟨x, rfl, wpAny_pure hQ⟩))

theorem revNext_end {it t : Addr} {Q : Option Value → Shared → Prop} (hh : A.handled = none) (hit : s.heap.get? it = some (revTup t (-1)))
    (hQ : ∀ h', Heap.ExtBut it s.heap h' → Q none { s with heap := h' }) : wpAny (model prog w) A (pyNext (.ref it)) Q E s := by
  have hT : s.TypeIs (.ref it) "reversed" := ⟨_, hit, rfl⟩
  unfold pyNext
  refine wpAny_bind (wpAny_attempt (wpAny_callSpecial?_slot (name := Str.ofString "__next__") hT slot_rev_next
    (wpAny_call_entry slot_rev_next hT entry_rev_next ?_ (args_rev_next _))))
  unfold Builtin.«reversed.__next__»
  refine wpAny_bind (wpAny_of_eq (a := (Value.ref it, [])) rfl ?_)
  try dsimp only
  refine wpAny_bind (wpAny_field hit rfl (x := .ref t) rfl ?_)
  refine wpAny_bind (wpAny_field hit rfl (x := rawInt (-1)) rfl ?_)
  show wpAny _ _ (if (-1 : Int) < 0 then _ else _) _ _ s
  rw [if_pos (by decide)]
  refine wpAny_bind (wpAny_rule ?_)
  refine wpAny_bind (m := setField (.ref it) 1 (rawInt (-1)) >>= fun _ => setField (.ref it) 0 .none) ?_
  refine wpAny_bind (wpAny_setField hit rfl (by simp) ?_)
  have h1 : (s.heap.update it (Obj.mapFields (·.setIfInBounds 1 (rawInt (-1))))).get? it = some { cls := .type "reversed", data := .fields #[.ref t, rawInt (-1)] } := Heap.get?_update_self (f := Obj.mapFields (·.setIfInBounds 1 (rawInt (-1)))) hit rfl
  refine wpAny_setField h1 rfl (by simp) ?_
  have e0 : Heap.ExtBut it s.heap ((s.heap.update it (Obj.mapFields (·.setIfInBounds 1 (rawInt (-1))))).update it (Obj.mapFields (·.setIfInBounds 0 Value.none))) := fun b o hb e =>
    (Heap.get?_update_other _ _ (Ne.symm hb)).trans ((Heap.get?_update_other _ _ (Ne.symm hb)).trans e)
  generalize (s.heap.update it (Obj.mapFields (·.setIfInBounds 1 (rawInt (-1))))).update it (Obj.mapFields (·.setIfInBounds 0 Value.none)) = h2 at e0 ⊢
  first
  | show wpAny _ _ (newExc (.type "StopIteration") [] >>= _) _ _ _
  | (refine wpAny_bind ?_; show wpAny _ _ (newExc (.type "StopIteration") [] >>= _) _ _ _)
  refine wpAny_bind ?_
  simp only [newExc, newTuple]
  refine wpAny_bind (wpAny_newObj_type ?_ (by size_fits))
  refine wpAny_bind (m := firstArgMember _ _) (wpAny_of_eq (a := Value.none) (by first | rfl | (simp only [firstArgMember]; rfl)) ?_)
  refine wpAny_newObj_type ?_ (by size_fits)
  simp only [raiseNew]
  refine wpAny_bind (wpAny_handled ?_)
  first | rw [show A.in1.handled = none from hh] | rw [hh]
  refine wpAny_bind (wpAny_pure (wpAny_throw ?_))
  refine wpAny_bind (wpAny_isInstance (T := "StopIteration") (b := true) ⟨_, Heap.get?_push_size _ rfl, rfl⟩ isSubtype_stop ?_)
  exact wpAny_pure (hQ _ ((e0.push _).push _))
end
end Mine
end

section
open PySem PySem.W PyProof.Rows PySem.Calls PySem.Spec
set_option maxRecDepth 100000
namespace Mine
section
variable {prog : Program} {w : World} {A : Around} {E : Value → Shared → Prop} {s : Shared} {R : Result → Shared → Prop}
noncomputable abbrev lsO (vs : List Value) (n : Nat) : Obj := { cls := .type "list", dict := none, data := .seq vs.toArray n, slots := #[] }

/-- the loop of an extend by a reversed tuple: k items are left -/
theorem ext_loop {D it t : Addr} {its : List Value} {res : Value} (hh : A.handled = none) (hD : D ≠ it) (hDt : D ≠ t) (hit : it ≠ t) (hz : its.length ≤ 1000) :
    ∀ (k : Nat) (s : Shared) (acc : List Value) (c : Nat), k ≤ its.length → s.heap.get? it = some (revTup t ((k : Int) - 1)) → s.heap.get? t = some (tup its) → s.heap.get? D = some (lsO acc c) → acc.length ≤ 100000 - k →
    (∀ h' tk c', (∀ b o, b ≠ D → b ≠ it → s.heap.get? b = some o → h'.get? b = some o) → h'.get? D = some (lsO (acc ++ (its.take k).reverse) c') → R (.ok (.ret res)) { s with heap := h', toks := tk }) →
    codeAny (model prog w) A (.builtin "list.extend.loop" ⟨[.ref D, .ref it, res], []⟩) R s := by
  intro k
  induction k with
  | zero =>
    intro s acc c _ h1 h2 h3 _ hR
    refine codeAny_builtin PySem.F.entry_extend_loop ?_
    rw [Around.under_plainId PySem.F.plain_extend_loop _]
    show wpAny _ A.in1 (pyNext (.ref it) >>= _) _ _ s
    refine wpAny_bind (revNext_end (t := t) hh (by simpa using h1) fun h' he => ?_)
    refine wpAny_pure (hR h' s.toks c (fun b o _ hb e => he b o hb e) ?_)
    have := he D _ hD h3
    simpa using this
  | succ k ih =>
    intro s acc c hk h1 h2 h3 hl hR
    have hx : its[k]? = some its[k] := List.getElem?_eq_getElem (by omega)
    have ht : its.take (k + 1) = its.take k ++ [its[k]] := by rw [List.take_add_one, hx]; rfl
    refine codeAny_builtin PySem.F.entry_extend_loop ?_
    rw [Around.under_plainId PySem.F.plain_extend_loop _]
    show wpAny _ A.in1 (pyNext (.ref it) >>= _) _ _ s
    have h1' : s.heap.get? it = some (revTup t (k : Int)) := by
      have : ((k + 1 : Nat) : Int) - 1 = (k : Int) := by omega
      rw [this] at h1; exact h1
    refine wpAny_bind (revNext_item h1' h2 hx hz ?_)
    have g1 : (s.heap.update it (Obj.mapFields (·.setIfInBounds 1 (rawInt ((k : Int) - 1))))).get? it = some (revTup t ((k : Int) - 1)) := Heap.get?_update_self (f := Obj.mapFields (·.setIfInBounds 1 (rawInt ((k : Int) - 1)))) h1' rfl
    have g2 : (s.heap.update it (Obj.mapFields (·.setIfInBounds 1 (rawInt ((k : Int) - 1))))).get? t = some (tup its) := (Heap.get?_update_other _ _ hit).trans h2
    have g3 : (s.heap.update it (Obj.mapFields (·.setIfInBounds 1 (rawInt ((k : Int) - 1))))).get? D = some (lsO acc c) := (Heap.get?_update_other _ _ (Ne.symm hD)).trans h3
    have g4 : ∀ b o, b ≠ it → s.heap.get? b = some o → (s.heap.update it (Obj.mapFields (·.setIfInBounds 1 (rawInt ((k : Int) - 1))))).get? b = some o := fun b o hb e => (Heap.get?_update_other _ _ (Ne.symm hb)).trans e
    generalize s.heap.update it (Obj.mapFields (·.setIfInBounds 1 (rawInt ((k : Int) - 1)))) = h2' at g1 g2 g3 g4 ⊢
    show wpAny _ A.in1 (updateSeq D (·.push its[k]) >>= _) _ _ _
    refine wpAny_bind ?_
    refine wpAny_updateSeq g3 rfl (wpAny_pure ⟨plainId_quiet PySem.F.plain_extend_loop _, ih _ (acc ++ [its[k]]) (c + 1) (by omega) ?_ ?_ ?_ (by rw [List.length_append, List.length_singleton]; omega) fun h' tk c' e1 e2 => ?_⟩)
      (by rw [List.size_toArray, sizeLine_eq]; omega) (by show (acc.toArray.push its[k]).size ≤ sizeLine + 1; rw [Array.size_push, List.size_toArray, sizeLine_eq]; omega)
    · exact (Heap.get?_update_other _ _ hD).trans g1
    · exact (Heap.get?_update_other _ _ hDt).trans g2
    · refine (Heap.get?_update_self _ g3 rfl).trans (congrArg some ?_)
      simp [Obj.mapSeq, lsO]
    · refine hR h' tk c' (fun b o h5 h6 e => e1 b o h5 h6 ((Heap.get?_update_other _ _ (Ne.symm h5)).trans (g4 b o h6 e))) ?_
      have : acc ++ (its.take (k + 1)).reverse = acc ++ [its[k]] ++ (its.take k).reverse := by rw [ht]; simp
      rw [this]; exact e2

theorem rev_hint {it t : Addr} {its : List Value} {Q : Value → Shared → Prop} (hz : its.length ≤ 1000) (hit : s.heap.get? it = some (revTup t ((its.length : Int) - 1))) (ht : s.heap.get? t = some (tup its))
    (h : ∀ tk tk', Q (.int (its.length : Int) tk) { s with toks := tk' }) : wpAny (model prog w) A (call (.builtin "reversed.__length_hint__") [.ref it]) Q E s := by
  have hT : s.TypeIs (.ref it) "reversed" := ⟨_, hit, rfl⟩
  refine wpAny_call_entry slot_rev_hint hT entry_rev_hint ?_ (args_rev_hint _)
  unfold Builtin.«reversed.__length_hint__»
  refine wpAny_bind (wpAny_of_eq (a := Value.ref it) rfl ?_)
  refine wpAny_bind (wpAny_field hit rfl (x := .ref t) rfl ?_)
  try dsimp only
  show wpAny _ _ (if (Value.ref t == Value.none) = true then _ else _) _ _ s
  rw [if_neg (show ¬ ((Value.ref t == Value.none) = true) from Bool.false_ne_true)]
  have hfit : ((its.toArray.size : Nat) : Int) < 2 ^ 63 := by rw [List.size_toArray]; omega
  refine wpAny_bind (len_tuple ⟨_, ht, rfl, _, rfl⟩ hfit ?_)
  refine wpAny_bind (wpAny_of_eq (a := some ((its.toArray.size : Nat) : Int)) rfl ?_)
  try dsimp only
  refine wpAny_bind (wpAny_field (s := { s with toks := s.toks + 1 + 1 }) hit rfl (x := rawInt ((its.length : Int) - 1)) rfl ?_)
  rw [List.size_toArray]
  show wpAny _ _ (if (its.length : Int) < ((its.length : Int) - 1) + 1 then _ else retInt (((its.length : Int) - 1) + 1)) _ _ _
  rw [if_neg (by omega), Int.sub_add_cancel]
  exact wpAny_bind (wpAny_mkInt (wpAny_pure ⟨_, rfl, h _ _⟩))

theorem rev_iter {it t : Addr} {i : Int} {Q : Value → Shared → Prop} (hit : s.heap.get? it = some (revTup t i)) (h : Q (.ref it) s) : wpAny (model prog w) A (pyIter (.ref it)) Q E s := by
  have hT : s.TypeIs (.ref it) "reversed" := ⟨_, hit, rfl⟩
  refine wpAny_pyIter_slot hT slot_rev_iter (wpAny_call_entry slot_rev_iter hT entry_rev_iter ?_ (args_rev_iter _))
  show wpAny _ _ (ret (.ref it)) _ _ s
  exact wpAny_pure ⟨_, rfl, "reversed", _, hT, slot_rev_next.lookup, h⟩

theorem ext_rev {D it t : Addr} {its acc : List Value} {n : Nat} {Q : Value → Shared → Prop} (hh : A.handled = none) (hD : D ≠ it) (hDt : D ≠ t) (hne : it ≠ t) (hz : its.length ≤ 1000) (hl : acc.length ≤ 90000)
    (hit : s.heap.get? it = some (revTup t ((its.length : Int) - 1))) (ht : s.heap.get? t = some (tup its)) (ho : s.heap.get? D = some (lsO acc n))
    (h : ∀ h' tk c', (∀ b o, b ≠ D → b ≠ it → s.heap.get? b = some o → h'.get? b = some o) → h'.get? D = some (lsO (acc ++ its.reverse) c') → Q .none { s with heap := h', toks := tk }) :
    wpAny (model prog w) A (call (.builtin "list.extend") [.ref D, .ref it]) Q E s := by
  have hT : s.TypeIs (.ref it) "reversed" := ⟨_, hit, rfl⟩
  have hTD : s.TypeIs (.ref D) "list" := ⟨_, ho, rfl⟩
  refine wpAny_call (codeAny_call_builtin (R := wants Q E) PySem.F.slot_list_extend.plain PySem.F.entry_list_extend (PySem.F.slot_list_extend.check _ _ _ _ _ _ _ _ hTD (PySem.F.args_list_extend_2 _ _) ?_))
  unfold Builtin.«list.extend»
  refine wpAny_bind (wpAny_of_eq (a := (Value.ref D, Value.ref it)) rfl ?_)
  show wpAny _ _ (Builtin.List.listExtendWith (.ref D) (.ref it) .none) _ _ s
  unfold Builtin.List.listExtendWith
  refine wpAny_bind (wpAny_typeOf hT ?_)
  have h1 : Builtin.List.listSameRef (.ref D) (.ref it) = false := by simp [Builtin.List.listSameRef, hD]
  rw [if_neg (by rw [h1]; decide)]
  refine wpAny_bind (rev_iter hit ?_)
  refine wpAny_bind (wpAny_holding ?_)
  unfold Builtin.List.listLengthHint
  refine wpAny_bind (wpAny_specialOf hT nolen_rev ?_)
  show wpAny _ _ (specialOf (Value.ref it) (Str.ofString "__length_hint__") >>= _) _ _ _
  refine wpAny_bind (wpAny_specialOf hT slot_rev_hint.lookup ?_)
  (generalize hid : ("reversed.__length_hint__" : String) = id0; (fail_if_success (clear hid id0)); wp_delta; rw [show splitId id0 = some ("reversed", "__length_hint__") from by subst hid; decide +kernel]; subst hid)
  refine wpAny_bind (wpAny_isInstance (b := true) hT PySem.F.sub_reversed_self ?_)
  try dsimp only
  rw [if_neg (by decide)]
  rw [if_neg (by decide +kernel)]
  refine wpAny_bind (wpAny_rule ?_)
  refine wpAny_bind (wpAny_of_eq (slot_rev_hint.bind _) ?_)
  try dsimp only
  refine wpAny_bind (wpAny_attempt (rev_hint hz hit ht fun tk tk' => ?_))
  show wpAny _ _ (asInt? (Value.int (its.length : Int) tk) >>= _) _ _ _
  rw [show asInt? (Value.int (its.length : Int) tk) = pure (some (its.length : Int)) from rfl, pure_bind]
  dsimp only
  have f1 : Builtin.List.listFitsIndex (its.length : Int) = true := by unfold Builtin.List.listFitsIndex; simp only [Bool.and_eq_true, decide_eq_true_eq]; omega
  have f2 : Builtin.List.listTooLong (its.length : Int).toNat = false := by unfold Builtin.List.listTooLong; simp only [decide_eq_false_iff_not, sizeLine_eq, Int.toNat_natCast]; omega
  rw [if_neg (by rw [f1]; decide), if_neg (by omega), if_neg (by rw [f2]; decide)]
  refine wpAny_pure ?_
  have go : ∀ (h2 : Heap) (n2 tk2 : Nat), (∀ b o, b ≠ D → s.heap.get? b = some o → h2.get? b = some o) → h2.get? D = some (lsO acc n2) →
      codeAny (model prog w) A (.builtin "list.extend.loop" ⟨[.ref D, .ref it, .none], []⟩) (wants Q E) { s with heap := h2, toks := tk2 } := fun h2 n2 tk2 k1 k2 =>
    ext_loop hh hD hDt hne hz its.length { s with heap := h2, toks := tk2 } acc n2 (Nat.le_refl _) (k1 _ _ (Ne.symm hD) hit) (k1 _ _ (Ne.symm hDt) ht) k2 (by omega) fun h' tk c' e1 e2 => by
      rw [List.take_length] at e2
      exact h h' tk c' (fun b o h5 h6 e => e1 b o h5 h6 (k1 b o h5 e)) e2
  split
  · refine wpAny_bind (wpAny_rule ?_)
    refine wpAny_bind ?_
    unfold Builtin.List.listTouch
    refine wpAny_bind (listUpdate_at (s := { s with toks := tk' }) ho rfl ?_ (by rw [List.size_toArray, sizeLine_eq]; omega) (by rw [Array.size_push, List.size_toArray, sizeLine_eq]; omega))
    have u1 : (s.heap.update D (Obj.mapSeq fun x => x.push Value.none)).get? D = some (lsO (acc ++ [Value.none]) (n + 1)) := by
      refine (Heap.get?_update_self _ ho rfl).trans (congrArg some ?_)
      simp [Obj.mapSeq, lsO]
    refine listUpdate_at u1 rfl ?_ (by rw [List.size_toArray, sizeLine_eq, List.length_append, List.length_singleton]; omega) (by rw [Array.size_pop, List.size_toArray, sizeLine_eq, List.length_append, List.length_singleton]; omega)
    refine wpAny_pure ⟨plainId_quiet PySem.F.plain_extend_loop _, go _ (n + 1 + 1) _ (fun b o h5 e => (Heap.get?_update_other _ _ (Ne.symm h5)).trans ((Heap.get?_update_other _ _ (Ne.symm h5)).trans e)) ?_⟩
    refine (Heap.get?_update_self _ u1 rfl).trans (congrArg some ?_)
    simp [Obj.mapSeq, lsO]
  · exact wpAny_pure ⟨plainId_quiet PySem.F.plain_extend_loop _, go _ n _ (fun b o _ e => e) ho⟩

variable {h₀ : Heap} {L : Addr} {m : Str → Option Value} {news : Led}
/-- xs.extend(reversed(t)), the reversed object at hand -/
theorem my_ext {D it t : Addr} {its acc : List Value} {n : Nat} {g : Obj → Led} {Q : Value → Shared → Prop} (hh : A.handled = none) (F : Fr h₀ L s.heap m) (N : News h₀ L s.heap ((it, revTup t ((its.length : Int) - 1)) :: news))
    (U : UpdF D (listOf acc.toArray n) news g) (hm : (t, tup its) ∈ news) (hlt : ∀ p ∈ news, p.1 < it) (hDt : D ≠ t) (hz : its.length ≤ 1000) (hl : acc.length ≤ 90000)
    (h : ∀ h' tk c', Fr h₀ L h' m → News h₀ L h' (g (listOf (acc ++ its.reverse).toArray c')) → Q .none { s with heap := h', toks := tk }) :
    wpAny (model prog w) A (call (.builtin "list.extend") [.ref D, .ref it]) Q E s := by
  obtain ⟨pre, post, rfl, hg, a, b⟩ := U.split
  have mD : (D, listOf acc.toArray n) ∈ pre ++ (D, listOf acc.toArray n) :: post := by simp
  have zi := N _ (.head _)
  have zD := N _ (.tail _ mD)
  have zt := N _ (.tail _ hm)
  have l1 : D < it := hlt _ mD
  have l2 : t < it := hlt _ hm
  refine ext_rev hh (Nat.ne_of_lt l1) hDt (Ne.symm (Nat.ne_of_lt l2)) hz hl zi.1 zt.1 zD.1 fun h' tk c' e1 e2 => ?_
  refine h h' tk c' ⟨?_, ?_, F.above⟩ ?_
  · obtain ⟨oL, a1, a2, hL, a3⟩ := F.ns
    exact ⟨oL, a1, a2, e1 _ _ (Ne.symm zD.2.1) (Ne.symm zi.2.1) hL, a3⟩
  · intro x o e
    exact e1 _ _ (fun q => by rw [q, zD.2.2] at e; cases e) (fun q => by rw [q, zi.2.2] at e; cases e) (F.keep _ _ e)
  · rw [hg]
    intro p hp
    have keep : ∀ p ∈ pre ++ post, h'.get? p.1 = some p.2 ∧ p.1 ≠ L ∧ h₀.get? p.1 = none := fun p hp => by
      have hp' : p ∈ pre ++ (D, listOf acc.toArray n) :: post := by
        rcases List.mem_append.mp hp with h | h <;> simp [h]
      have z := N _ (.tail _ hp')
      exact ⟨e1 _ _ ((List.mem_append.mp hp).elim (a p) (b p)) (Nat.ne_of_lt (hlt _ hp')) z.1, z.2⟩
    rcases List.mem_append.mp hp with h | h
    · exact keep p (List.mem_append.mpr (.inl h))
    · rcases List.mem_cons.mp h with rfl | h
      · exact ⟨e2, zD.2⟩
      · exact keep p (List.mem_append.mpr (.inr h))
/-- reversed(t) upon a tuple of the ledger -/
theorem my_rev {t : Addr} {its : List Value} {Q : Value → Shared → Prop} (F : Fr h₀ L s.heap m) (N : News h₀ L s.heap news) (hm : (t, tup its) ∈ news) (hz : its.length ≤ 1000)
    (h : ∀ D h' tk, Fr h₀ L h' m → News h₀ L h' ((D, revTup t ((its.length : Int) - 1)) :: news) → (∀ p ∈ news, p.1 < D) → Q (.ref D) { s with heap := h', toks := tk }) :
    wpAny (model prog w) A (call (.type "reversed") [.ref t]) Q E s :=
  call_rev hz (N _ hm).1 (h _ _ _ (F.push _) (News.push F N _) fun p hp => Heap.lt_size (N p hp).1)
end
end Mine
end

section
open PySem PySem.W PyProof.Rows PySem.Calls PySem.Spec
set_option maxRecDepth 100000
namespace Mine
theorem updOf {d : Addr} {o o' : Obj} {l : Led} {g : Obj → Led} (U : UpdF d o l g) : Upd d o o' l (g o') := by
  induction U with
  | head h => exact .head h
  | tail h _ ih => exact .tail h ih
/-- xs.pop() of any values -/
theorem my_pop {prog : Program} {w : World} {A : Around} {E : Value → Shared → Prop} {s : Shared} {h₀ : Heap} {L D : Addr} {m : Str → Option Value} {news : Led} {us : List Value} {y : Value} {n : Nat} {g : Obj → Led} {Q : Value → Shared → Prop}
    (F : Fr h₀ L s.heap m) (N : News h₀ L s.heap news) (U : UpdF D (listOf (us ++ [y]).toArray n) news g) (hz : us.length ≤ 90000) (h : ∀ h', Fr h₀ L h' m → News h₀ L h' (g (listOf us.toArray (n + 1))) → Q y { s with heap := h' }) :
    wpAny (model prog w) A (call (.builtin "list.pop") [.ref D]) Q E s := by
  refine kl_pop F N (p := us) (y := y) ?_ (updOf U) (by rw [List.toList_toArray, sizeLine_eq, List.length_append, List.length_singleton]; omega) h
  rw [List.toList_toArray]; exact kpa_last y us

/-- a value as called_names walks it -/
inductive TV where
  | str (s : Str)
  | oth
  | tup (ts : List TV)
noncomputable def TV.head (ts : List TV) : Prop := ts.length = 4 → ∃ s, ts[0]? = some (.str s) ∧ (s = Str.ofString "call" → ∃ n, ts[2]? = some (.str n))
mutual
noncomputable def TV.In (news : Led) : TV → Value → Prop
  | .str s, v => ∃ t, v = .str s t
  | .oth, v => v = .none ∨ ∃ i t, v = .int i t
  | .tup ts, v => ∃ a vs, v = .ref a ∧ (a, Mine.tup vs) ∈ news ∧ TV.AllIn news ts vs ∧ vs.length ≤ 1000 ∧ TV.head ts
noncomputable def TV.AllIn (news : Led) : List TV → List Value → Prop
  | [], vs => vs = []
  | t :: r, vs => ∃ v vs', vs = v :: vs' ∧ TV.In news t v ∧ TV.AllIn news r vs'
end
noncomputable def TV.call : List TV → List Str
  | [.str c, _, .str n, _] => if c = Str.ofString "call" then [n] else []
  | _ => []
mutual
noncomputable def TV.names : TV → List Str
  | .str _ => []
  | .oth => []
  | .tup ts => TV.call ts ++ TV.namesAll ts
noncomputable def TV.namesAll : List TV → List Str
  | [] => []
  | t :: r => t.names ++ TV.namesAll r
end
mutual
noncomputable def TV.size : TV → Nat
  | .str _ => 1
  | .oth => 1
  | .tup ts => 1 + TV.sizeAll ts
noncomputable def TV.sizeAll : List TV → Nat
  | [] => 0
  | t :: r => t.size + TV.sizeAll r
end
theorem TV.allIn_length {news : Led} : ∀ {ts : List TV} {vs : List Value}, TV.AllIn news ts vs → vs.length = ts.length
  | [], vs, h => by rw [TV.AllIn] at h; subst h; rfl
  | t :: r, vs, h => by
    rw [TV.AllIn] at h
    obtain ⟨v, vs', rfl, _, h2⟩ := h
    simp [TV.allIn_length h2]
theorem TV.allIn_append {news : Led} : ∀ {ts us : List TV} {vs ws : List Value}, TV.AllIn news ts vs → TV.AllIn news us ws → TV.AllIn news (ts ++ us) (vs ++ ws)
  | [], us, vs, ws, h, g => by rw [TV.AllIn] at h; subst h; exact g
  | t :: r, us, vs, ws, h, g => by
    rw [TV.AllIn] at h
    obtain ⟨v, vs', rfl, h1, h2⟩ := h
    show TV.AllIn news (t :: (r ++ us)) (v :: (vs' ++ ws))
    rw [TV.AllIn]
    exact ⟨v, _, rfl, h1, TV.allIn_append h2 g⟩
theorem TV.allIn_one {news : Led} {t : TV} {v : Value} (h : t.In news v) : TV.AllIn news [t] [v] := by
  rw [TV.AllIn]; exact ⟨v, [], rfl, h, by rw [TV.AllIn]⟩
theorem TV.allIn_rev {news : Led} : ∀ {ts : List TV} {vs : List Value}, TV.AllIn news ts vs → TV.AllIn news ts.reverse vs.reverse
  | [], vs, h => by rw [TV.AllIn] at h; subst h; simp [TV.AllIn]
  | t :: r, vs, h => by
    rw [TV.AllIn] at h
    obtain ⟨v, vs', rfl, h1, h2⟩ := h
    rw [List.reverse_cons, List.reverse_cons]
    exact TV.allIn_append (TV.allIn_rev h2) (TV.allIn_one h1)
theorem TV.allIn_snoc {news : Led} : ∀ {ts : List TV} {vs : List Value} {v : Value}, TV.AllIn news ts (vs ++ [v]) → ∃ ts' t, ts = ts' ++ [t] ∧ TV.AllIn news ts' vs ∧ t.In news v
  | [], vs, v, h => by rw [TV.AllIn] at h; simp at h
  | t :: r, [], v, h => by
    rw [TV.AllIn] at h
    obtain ⟨v', vs', e, h1, h2⟩ := h
    obtain ⟨rfl, rfl⟩ : v' = v ∧ vs' = [] := by simpa [eq_comm] using e
    have hr : r = [] := by
      have := TV.allIn_length h2
      exact List.length_eq_zero_iff.mp this.symm
    subst hr
    exact ⟨[], t, rfl, by rw [TV.AllIn], h1⟩
  | t :: r, u :: vs, v, h => by
    rw [TV.AllIn] at h
    obtain ⟨v', vs', e, h1, h2⟩ := h
    obtain ⟨rfl, rfl⟩ : v' = u ∧ vs' = vs ++ [v] := by simpa [eq_comm] using e
    obtain ⟨ts', t', rfl, g1, g2⟩ := TV.allIn_snoc h2
    exact ⟨t :: ts', t', rfl, by rw [TV.AllIn]; exact ⟨v', vs, rfl, h1, g1⟩, g2⟩
theorem TV.namesAll_append : ∀ (ts us : List TV), TV.namesAll (ts ++ us) = TV.namesAll ts ++ TV.namesAll us
  | [], us => by rw [TV.namesAll]; rfl
  | t :: r, us => by
    show TV.namesAll (t :: (r ++ us)) = _
    rw [TV.namesAll, TV.namesAll, TV.namesAll_append r us, List.append_assoc]
theorem TV.sizeAll_append : ∀ (ts us : List TV), TV.sizeAll (ts ++ us) = TV.sizeAll ts + TV.sizeAll us
  | [], us => by rw [TV.sizeAll]; simp
  | t :: r, us => by
    show TV.sizeAll (t :: (r ++ us)) = _
    rw [TV.sizeAll, TV.sizeAll, TV.sizeAll_append r us, Nat.add_assoc]
theorem TV.sizeAll_rev : ∀ (ts : List TV), TV.sizeAll ts.reverse = TV.sizeAll ts
  | [] => rfl
  | t :: r => by
    rw [List.reverse_cons, TV.sizeAll_append, TV.sizeAll_rev r, TV.sizeAll, TV.sizeAll, TV.sizeAll]; omega
theorem TV.mem_names_rev (x : Str) : ∀ (ts : List TV), x ∈ TV.namesAll ts.reverse ↔ x ∈ TV.namesAll ts
  | [] => Iff.rfl
  | t :: r => by
    rw [List.reverse_cons, TV.namesAll_append, TV.namesAll, TV.namesAll, TV.namesAll, List.append_nil, List.mem_append, List.mem_append, TV.mem_names_rev x r]
    exact or_comm
theorem TV.len_names_rev : ∀ (ts : List TV), (TV.namesAll ts.reverse).length = (TV.namesAll ts).length
  | [] => rfl
  | t :: r => by
    rw [List.reverse_cons, TV.namesAll_append, List.length_append, TV.len_names_rev r, TV.namesAll, TV.namesAll, TV.namesAll, List.append_nil, List.length_append]; omega
theorem TV.len_sizeAll : ∀ (ts : List TV), ts.length ≤ TV.sizeAll ts
  | [] => Nat.zero_le _
  | t :: r => by
    have h1 : 1 ≤ t.size := by cases t <;> rw [TV.size] <;> omega
    have := TV.len_sizeAll r
    rw [TV.sizeAll, List.length_cons]; omega
section
variable {prog : Program} {w : World} {A : Around} {E : Value → Shared → Prop} {s : Shared} {h₀ : Heap} {L d : Addr} {m : Str → Option Value} {news : Led}
theorem my_lenB {l : Addr} {vs : List Value} {n : Nat} {Q : Value → Shared → Prop}
    (N : News h₀ L s.heap news) (hm : (l, listOf vs.toArray n) ∈ news) (hl : vs.length ≤ 90000) (h : Q (.int (vs.length : Nat) (s.toks + 1)) { s with toks := s.toks + 1 + 1 }) :
    wpAny (model prog w) A (call (.builtin "len") [.ref l]) Q E s :=
  Calls.call_len_list (items := vs.toArray) ⟨_, (N _ hm).1, rfl, n, rfl⟩ (by rw [List.size_toArray]; omega) (by rw [List.size_toArray]; exact h)
theorem my_lenT {l : Addr} {vs : List Value} {Q : Value → Shared → Prop}
    (N : News h₀ L s.heap news) (hm : (l, tup vs) ∈ news) (hl : vs.length ≤ 90000) (h : Q (.int (vs.length : Nat) (s.toks + 1)) { s with toks := s.toks + 1 + 1 }) :
    wpAny (model prog w) A (call (.builtin "len") [.ref l]) Q E s :=
  len_tuple (items := vs.toArray) ⟨_, (N _ hm).1, rfl, _, rfl⟩ (by rw [List.size_toArray]; omega) (by rw [List.size_toArray]; exact h)
theorem strs_of : ∀ {kvs : List (Str × Value)} {vs : List Value}, vs.length = kvs.length → (∀ (j : Nat) v, vs[j]? = some v → ∃ (k : Str) (x : Value), kvs[j]? = some (k, x) ∧ ∃ t, v = Value.str k t) → StrsAre vs (kvs.map (·.1))
  | [], [], _, _ => .nil
  | (k, x) :: r, v :: vs, hl, hv => by
    obtain ⟨k', x', e, t, rfl⟩ := hv 0 v rfl
    obtain ⟨rfl, rfl⟩ : k = k' ∧ x = x' := by simpa using e
    exact .cons k t (strs_of (by simpa using hl) fun j u hu => by simpa using hv (j + 1) u (by simpa using hu))
  | [], _ :: _, hl, _ => by simp at hl
  | _ :: _, [], hl, _ => by simp at hl
theorem my_keys {o : Obj} {kvs : List (Str × Value)} {Q : Value → Shared → Prop} (hh : A.handled = none) (F : Fr h₀ L s.heap m) (N : News h₀ L s.heap news) (hp : (d, o) ∈ news) (hd : o.IsDictOf (PySem.strKind prog w) kvs) (lo : (d == sysModules) = false) (hn : kvs.length ≤ 90000)
    (h : ∀ (D : Addr) c h' tk vs, Fr h₀ L h' m → News h₀ L h' ((D, listOf vs.toArray c) :: news) → (∀ q ∈ news, q.1 < D) → StrsAre vs (kvs.map (·.1)) → Q (.ref D) { s with heap := h', toks := tk }) :
    wpAny (model prog w) A (call (.type "list") [.ref d]) Q E s := by
  obtain ⟨ep, hat⟩ := (kda_dict N hp hd).dictAt
  refine kdl_N (kdl_dict (knd := PySem.strKind prog w) (kvs := kvs) (ep := ep) lo) hh F N hat (by rw [sizeLine_eq]; omega) fun B c h' tk vs F' N' l1 hl hv => ?_
  refine h B c h' tk vs F' N' l1 (strs_of hl fun j u hu => ?_)
  obtain ⟨k, x, hx, hk⟩ := hv j u hu
  exact ⟨k, x, hx, Value.isStrOf_shape hk⟩
theorem my_put {o : Obj} {kvs : List (Str × Value)} {k : Str} {tk : Tok} {v : Value} {g : Obj → Led} {Q : Unit → Shared → Prop} (F : Fr h₀ L s.heap m) (N : News h₀ L s.heap news) (U : UpdF d o news g) (hd : o.IsDictOf (PySem.strKind prog w) kvs) (hn : kvs.length ≤ 90000)
    (h : ∀ h' o', Fr h₀ L h' m → News h₀ L h' (g o') → o'.IsDictOf (PySem.strKind prog w) (stored kvs k v) → Q () { s with heap := h', toks := s.toks + 1 }) :
    wpAny (model prog w) A (setItem (.ref d) (.str k tk) v) Q E s := by
  obtain ⟨pre, post, rfl, hg, a, b⟩ := U.split
  have hm := N (d, o) (List.mem_append_right _ (.head _))
  refine wpAny_setItem_pairs (knd := PySem.strKind prog w) (hsz := by rw [sizeLine_eq]; omega) (strKind_is _ _ _ _) (Heap.dictOf_iff.mpr ⟨o, hm.1, hd⟩) fun h' hmm hs => ?_
  obtain ⟨o', ho', hd'⟩ := Heap.dictOf_iff.mp hmm
  refine h h' o' (F.change hs hm.2.1 hm.2.2) ?_ hd'
  rw [hg]
  exact N.setIn a b hs ho'
theorem stored_len (kvs : List (Str × Value)) (k : Str) (v : Value) : (stored kvs k v).length ≤ kvs.length + 1 := by
  unfold stored
  split <;> simp
theorem stored_mem (kvs : List (Str × Value)) (k : Str) (v : Value) (x : Str) : x ∈ (stored kvs k v).map (·.1) ↔ x ∈ kvs.map (·.1) ∨ x = k := by
  unfold stored
  split
  · rename_i h
    have e : (kvs.map fun kv => if kv.1 = k then (kv.1, v) else kv).map (·.1) = kvs.map (·.1) := by
      rw [List.map_map]
      refine List.map_congr_left fun p _ => ?_
      show (if p.1 = k then (p.1, v) else p).1 = p.1
      split <;> rfl
    rw [e]
    refine ⟨.inl, fun q => q.elim id fun q => ?_⟩
    subst q
    obtain ⟨p, hp, he⟩ := List.any_eq_true.mp h
    exact List.mem_map.mpr ⟨p, hp, by simpa using he⟩
  · rw [List.map_append, List.mem_append]
    simp
end
end Mine
end

section
open PySem PySem.W PyProof.Rows PySem.Calls PySem.Spec
set_option maxRecDepth 100000
namespace Mine
noncomputable def CldJ (prog : Program) (w : World) (aS aF : Addr) (news : Led) (t : TV) (m₀ : Str → Option Value) (n : Nat) (m : Str → Option Value) (nx : Led) : Prop :=
  ∃ kvs oF vs ts k, nx = (aS, listOf vs.toArray k) :: (aF, oF) :: news ∧ oF.IsDictOf (PySem.strKind prog w) kvs ∧ TV.AllIn news ts vs ∧ n = TV.sizeAll ts ∧ TV.sizeAll ts ≤ 20000 ∧ kvs.length + TV.sizeAll ts ≤ 20000 ∧
    (∀ x, (x ∈ kvs.map (·.1) ∨ x ∈ TV.namesAll ts) ↔ x ∈ t.names) ∧ ∃ u : Str → Option Value, m = fun z => if [Str.ofString "part"].contains z then u z else m₀ z
theorem TV.call_len {ts : List TV} (h : ts.length ≠ 4) : TV.call ts = [] := by
  unfold TV.call
  split
  · exact absurd rfl h
  · rfl
theorem cld_end {prog : Program} {w : World} {g h' : Heap} {L aS aF : Addr} {news : Led} {t : TV} {m₀ m' : Str → Option Value} {n k tk : Nat} {s : Shared} {Q : Flow → Shared → Prop} {kvs : List (Str × Value)} {oF : Obj} {us : List Value} {ts : List TV}
    (F : Fr g L h' m') (N : News g L h' ((aS, listOf us.toArray k) :: (aF, oF) :: news)) (hd : oF.IsDictOf (PySem.strKind prog w) kvs) (hall : TV.AllIn news ts us) (hn : TV.sizeAll ts < n) (h1 : TV.sizeAll ts ≤ 20000) (h2 : kvs.length + TV.sizeAll ts ≤ 20000)
    (hx : ∀ x, (x ∈ kvs.map (·.1) ∨ x ∈ TV.namesAll ts) ↔ x ∈ t.names) (hm : ∀ z, [Str.ofString "part"].contains z = false → m' z = m₀ z) :
    WhileStep2 g L s (fun n m nx => CldJ prog w aS aF news t m₀ n m nx) Q n .next { s with heap := h', toks := tk } :=
  ⟨h', tk, m', _, TV.sizeAll ts, rfl, F, N, hn, kvs, oF, us, ts, k, rfl, hd, hall, rfl, h1, h2, hx, st_end hm⟩
/-- the while's next turn -/
noncomputable def CldTurn (prog : Program) (w : World) (A : Around) (s : Shared) (env : Env) (g : Heap) (L aS aF : Addr) (news : Led) (t : TV) (m : Str → Option Value) (Q : Flow → Shared → Prop) (E : Value → Shared → Prop) (test : PySem.Expr) (body : List Stmt) (n : Nat) (h₁ : Heap) (tk₁ : Nat) : Prop :=
  wpAny (model prog w) A (isTrue test env (eval test env)) (fun b s₂ => if b = true then wpAny (model prog w) A (execs body env) (WhileStep2 g L s (fun n m' nx => CldJ prog w aS aF news t m n m' nx) Q n) E s₂ else Q .next s₂) E { s with heap := h₁, toks := tk₁ }
theorem cons_of {α : Type} {n : Nat} : ∀ {ws : List α}, ws.length = n + 1 → ∃ a t, ws = a :: t ∧ t.length = n
  | a :: t, h => ⟨a, t, rfl, Nat.succ.inj h⟩
theorem four_of {α : Type} {ws : List α} (h : ws.length = 4) : ∃ a b c d, ws = [a, b, c, d] := by
  obtain ⟨a, t, e, h1⟩ := cons_of h
  obtain ⟨b, t, e1, h1⟩ := cons_of h1
  obtain ⟨c, t, e2, h1⟩ := cons_of h1
  obtain ⟨d, t, e3, h1⟩ := cons_of h1
  exact ⟨a, b, c, d, by rw [e, e1, e2, e3, List.length_eq_zero_iff.mp h1]⟩
theorem CldJ.elim {prog : Program} {w : World} {aS aF : Addr} {news : Led} {t : TV} {m₀ : Str → Option Value} {n : Nat} {m : Str → Option Value} {nx : Led} {P : Nat → (Str → Option Value) → Led → Prop} (J : CldJ prog w aS aF news t m₀ n m nx)
    (k : ∀ kvs oF vs ts k (u : Str → Option Value), oF.IsDictOf (PySem.strKind prog w) kvs → TV.AllIn news ts vs → TV.sizeAll ts ≤ 20000 → kvs.length + TV.sizeAll ts ≤ 20000 → (∀ x, (x ∈ kvs.map (·.1) ∨ x ∈ TV.namesAll ts) ↔ x ∈ t.names) →
      P (TV.sizeAll ts) (fun z => if [Str.ofString "part"].contains z then u z else m₀ z) ((aS, listOf vs.toArray k) :: (aF, oF) :: news)) : P n m nx := by
  obtain ⟨kvs, oF, vs, ts, k', rfl, hs, hall, rfl, hsz', hkv, hx, u, rfl⟩ := J
  exact k kvs oF vs ts k' u hs hall hsz' hkv hx
/-- what stands at the stack's end -/
theorem cld_cases {news : Led} {ts : List TV} {vs : List Value} (hall : TV.AllIn news ts vs) {P : List TV → List Value → Prop} (nil : P [] [])
    (str : ∀ ts us z tz, TV.AllIn news ts us → us.length ≤ TV.sizeAll ts → P (ts ++ [.str z]) (us ++ [.str z tz])) (non : ∀ ts us, TV.AllIn news ts us → us.length ≤ TV.sizeAll ts → P (ts ++ [.oth]) (us ++ [.none])) (int : ∀ ts us z tz, TV.AllIn news ts us → us.length ≤ TV.sizeAll ts → P (ts ++ [.oth]) (us ++ [.int z tz]))
    (tpl : ∀ ts us us' b ws, TV.AllIn news ts us → us.length ≤ TV.sizeAll ts → (b, tup ws) ∈ news → TV.AllIn news us' ws → ws.length ≤ 1000 → TV.head us' → P (ts ++ [.tup us']) (us ++ [.ref b])) : P ts vs := by
  have hlen := TV.allIn_length hall
  rcases List.eq_nil_or_concat vs with rfl | ⟨us, y, rfl⟩
  · obtain rfl : ts = [] := List.length_eq_zero_iff.mp hlen.symm
    exact nil
  · rw [List.concat_eq_append] at hall ⊢
    obtain ⟨ts, t', rfl, g1, g2⟩ := TV.allIn_snoc hall
    have hl : us.length ≤ TV.sizeAll ts := by rw [TV.allIn_length g1]; exact TV.len_sizeAll ts
    cases t' with
    | str z =>
      rw [TV.In] at g2
      obtain ⟨tz, rfl⟩ := g2
      exact str ts us z tz g1 hl
    | oth =>
      rw [TV.In] at g2
      rcases g2 with rfl | ⟨iz, tz, rfl⟩
      · exact non ts us g1 hl
      · exact int ts us iz tz g1 hl
    | tup us' =>
      rw [TV.In] at g2
      obtain ⟨b, ws, rfl, hm, gw, hwl, ghead⟩ := g2
      exact tpl ts us us' b ws g1 hl hm gw hwl ghead
/-- a tuple's items, and what they are by the head -/
theorem cld_tup {news : Led} {us' : List TV} {ws : List Value} (gw : TV.AllIn news us' ws) (ghead : TV.head us') {P : List TV → List Value → Prop}
    (call : ∀ (t1 t3 : TV) (x1 x3 : Value) (nm : Str) (tc tn : Tok), P [.str (Str.ofString "call"), t1, .str nm, t3] [.str (Str.ofString "call") tc, x1, .str nm tn, x3])
    (four : ∀ (us' : List TV) (x1 x2 x3 : Value) (c : Str) (tc : Tok), c ≠ Str.ofString "call" → TV.call us' = [] → P us' [.str c tc, x1, x2, x3])
    (tpl : ws.length ≠ 4 → TV.call us' = [] → P us' ws) : P us' ws := by
  by_cases h4 : ws.length = 4
  · obtain ⟨x0, x1, x2, x3, rfl⟩ := four_of h4
    obtain ⟨t0, t1, t2, t3, rfl⟩ := four_of ((TV.allIn_length gw).symm.trans rfl : us'.length = 4)
    simp only [TV.AllIn, List.cons.injEq] at gw
    obtain ⟨_, _, ⟨rfl, rfl⟩, k0, _, _, ⟨rfl, rfl⟩, k1, _, _, ⟨rfl, rfl⟩, k2, _, _, ⟨rfl, rfl⟩, k3, _⟩ := gw
    obtain ⟨c, hc, hn⟩ := ghead rfl
    obtain rfl : t0 = .str c := by simpa using hc
    rw [TV.In] at k0
    obtain ⟨tc, rfl⟩ := k0
    by_cases hcc : c = Str.ofString "call"
    · obtain ⟨nm, hn⟩ := hn hcc
      obtain rfl : t2 = .str nm := by simpa using hn
      rw [TV.In] at k2
      obtain ⟨tn, rfl⟩ := k2
      subst hcc
      exact call t1 t3 x1 x3 nm tc tn
    · exact four _ x1 x2 x3 c tc hcc (by cases t2 <;> simp only [TV.call, if_neg hcc])
  · exact tpl h4 (TV.call_len (by rw [← TV.allIn_length gw]; exact h4))
theorem sizeAll_snoc (ts : List TV) (t : TV) : TV.sizeAll (ts ++ [t]) = TV.sizeAll ts + t.size := by rw [TV.sizeAll_append, TV.sizeAll, TV.sizeAll, Nat.add_zero]
theorem namesAll_snoc (ts : List TV) (t : TV) : TV.namesAll (ts ++ [t]) = TV.namesAll ts ++ t.names := by rw [TV.namesAll_append, TV.namesAll, TV.namesAll, List.append_nil]
theorem size_tup (us : List TV) : (TV.tup us).size = 1 + TV.sizeAll us := by rw [TV.size]
theorem names_none {kvs : List (Str × Value)} {ts : List TV} {t : TV} {x : Str} {N : List Str} (h : t.names = []) (q : (x ∈ kvs.map (·.1) ∨ x ∈ TV.namesAll (ts ++ [t])) ↔ x ∈ N) : (x ∈ kvs.map (·.1) ∨ x ∈ TV.namesAll ts) ↔ x ∈ N := by
  rw [namesAll_snoc, h, List.append_nil] at q
  exact q
theorem names_rev {kvs : List (Str × Value)} {ts us : List TV} {x : Str} {N : List Str} (h : TV.call us = []) (q : (x ∈ kvs.map (·.1) ∨ x ∈ TV.namesAll (ts ++ [.tup us])) ↔ x ∈ N) : (x ∈ kvs.map (·.1) ∨ x ∈ TV.namesAll (ts ++ us.reverse)) ↔ x ∈ N := by
  rw [namesAll_snoc, TV.names, h, List.nil_append, List.mem_append] at q
  rw [TV.namesAll_append, List.mem_append, TV.mem_names_rev]
  exact q
theorem names_call {kvs : List (Str × Value)} {ts : List TV} {t1 t3 : TV} {nm x : Str} {N : List Str} (q : (x ∈ kvs.map (·.1) ∨ x ∈ TV.namesAll (ts ++ [.tup [.str (Str.ofString "call"), t1, .str nm, t3]])) ↔ x ∈ N) :
    ((x ∈ kvs.map (·.1) ∨ x = nm) ∨ x ∈ TV.namesAll (ts ++ [.str (Str.ofString "call"), t1, .str nm, t3].reverse)) ↔ x ∈ N := by
  rw [namesAll_snoc, TV.names] at q
  simp only [TV.call, if_pos, List.mem_append, List.mem_singleton] at q
  rw [TV.namesAll_append, List.mem_append, TV.mem_names_rev, ← q]
  simp only [or_assoc, or_left_comm]
set_option maxHeartbeats 1600000 in
theorem While_cld {prog : Program} {w : World} {A : Around} {E : Value → Shared → Prop} {s : Shared} {env : Env} {g : Heap} {L : Addr} {test : PySem.Expr} {body : List Stmt} {pos : Pos} {aS aF : Addr} {oF0 : Obj} {news : Led} {t : TV} {v : Value} {m : Str → Option Value} {Q : Flow → Shared → Prop}
    (F : Fr g L s.heap m) (N : News g L s.heap ((aS, listOf [v].toArray 0) :: (aF, oF0) :: news)) (hd0 : oF0.IsDictOf (PySem.strKind prog w) ([] : List (Str × Value))) (ht : t.In news v) (hsz : t.size ≤ 20000) (hS : ∀ p ∈ news, p.1 ≠ aS)
    (done : ∀ kvs oF k (u : Str → Option Value) h₁ tk₁ n, oF.IsDictOf (PySem.strKind prog w) kvs → kvs.length ≤ 20000 → (∀ x, x ∈ kvs.map (·.1) ↔ x ∈ t.names) → Fr g L h₁ (fun z => if [Str.ofString "part"].contains z then u z else m z) → News g L h₁ ((aS, listOf [].toArray k) :: (aF, oF) :: news) → CldTurn prog w A s env g L aS aF news t m Q E test body n h₁ tk₁)
    (str : ∀ kvs oF us ts k (u : Str → Option Value) h₁ tk₁ n (z : Str) (tz : Tok), oF.IsDictOf (PySem.strKind prog w) kvs → us.length ≤ 20000 → TV.AllIn news ts us → TV.sizeAll ts < n → TV.sizeAll ts ≤ 20000 → kvs.length + TV.sizeAll ts ≤ 20000 → (∀ x, (x ∈ kvs.map (·.1) ∨ x ∈ TV.namesAll ts) ↔ x ∈ t.names) → Fr g L h₁ (fun z => if [Str.ofString "part"].contains z then u z else m z) → News g L h₁ ((aS, listOf (us ++ [Value.str z tz]).toArray k) :: (aF, oF) :: news) → CldTurn prog w A s env g L aS aF news t m Q E test body n h₁ tk₁)
    (non : ∀ kvs oF us ts k (u : Str → Option Value) h₁ tk₁ n, oF.IsDictOf (PySem.strKind prog w) kvs → us.length ≤ 20000 → TV.AllIn news ts us → TV.sizeAll ts < n → TV.sizeAll ts ≤ 20000 → kvs.length + TV.sizeAll ts ≤ 20000 → (∀ x, (x ∈ kvs.map (·.1) ∨ x ∈ TV.namesAll ts) ↔ x ∈ t.names) → Fr g L h₁ (fun z => if [Str.ofString "part"].contains z then u z else m z) → News g L h₁ ((aS, listOf (us ++ [Value.none]).toArray k) :: (aF, oF) :: news) → CldTurn prog w A s env g L aS aF news t m Q E test body n h₁ tk₁)
    (int : ∀ kvs oF us ts k (u : Str → Option Value) h₁ tk₁ n (z : Int) (tz : Tok), oF.IsDictOf (PySem.strKind prog w) kvs → us.length ≤ 20000 → TV.AllIn news ts us → TV.sizeAll ts < n → TV.sizeAll ts ≤ 20000 → kvs.length + TV.sizeAll ts ≤ 20000 → (∀ x, (x ∈ kvs.map (·.1) ∨ x ∈ TV.namesAll ts) ↔ x ∈ t.names) → Fr g L h₁ (fun z => if [Str.ofString "part"].contains z then u z else m z) → News g L h₁ ((aS, listOf (us ++ [Value.int z tz]).toArray k) :: (aF, oF) :: news) → CldTurn prog w A s env g L aS aF news t m Q E test body n h₁ tk₁)
    (call : ∀ kvs oF us ts k (u : Str → Option Value) h₁ tk₁ n (b : Addr) (x1 x3 : Value) (nm : Str) (tc tn : Tok), oF.IsDictOf (PySem.strKind prog w) kvs → us.length ≤ 20000 → (b, tup [Value.str (Str.ofString "call") tc, x1, Value.str nm tn, x3]) ∈ news → (@Ne Nat aS b) → TV.AllIn news ts (us ++ [Value.str (Str.ofString "call") tc, x1, Value.str nm tn, x3].reverse) → TV.sizeAll ts < n → TV.sizeAll ts ≤ 20000 → (kvs.length + 1) + TV.sizeAll ts ≤ 20000 → (∀ x, ((x ∈ kvs.map (·.1) ∨ x = nm) ∨ x ∈ TV.namesAll ts) ↔ x ∈ t.names) → Fr g L h₁ (fun z => if [Str.ofString "part"].contains z then u z else m z) → News g L h₁ ((aS, listOf (us ++ [Value.ref b]).toArray k) :: (aF, oF) :: news) → CldTurn prog w A s env g L aS aF news t m Q E test body n h₁ tk₁)
    (four : ∀ kvs oF us ts k (u : Str → Option Value) h₁ tk₁ n (b : Addr) (x1 x2 x3 : Value) (c : Str) (tc : Tok), oF.IsDictOf (PySem.strKind prog w) kvs → us.length ≤ 20000 → (b, tup [Value.str c tc, x1, x2, x3]) ∈ news → (@Ne Nat aS b) → c ≠ Str.ofString "call" → TV.AllIn news ts (us ++ [Value.str c tc, x1, x2, x3].reverse) → TV.sizeAll ts < n → TV.sizeAll ts ≤ 20000 → kvs.length + TV.sizeAll ts ≤ 20000 → (∀ x, (x ∈ kvs.map (·.1) ∨ x ∈ TV.namesAll ts) ↔ x ∈ t.names) → Fr g L h₁ (fun z => if [Str.ofString "part"].contains z then u z else m z) → News g L h₁ ((aS, listOf (us ++ [Value.ref b]).toArray k) :: (aF, oF) :: news) → CldTurn prog w A s env g L aS aF news t m Q E test body n h₁ tk₁)
    (tpl : ∀ kvs oF us ts k (u : Str → Option Value) h₁ tk₁ n (b : Addr) (ws : List Value), oF.IsDictOf (PySem.strKind prog w) kvs → us.length ≤ 20000 → (b, tup ws) ∈ news → (@Ne Nat aS b) → ws.length ≠ 4 → ws.length ≤ 1000 → TV.AllIn news ts (us ++ ws.reverse) → TV.sizeAll ts < n → TV.sizeAll ts ≤ 20000 → kvs.length + TV.sizeAll ts ≤ 20000 → (∀ x, (x ∈ kvs.map (·.1) ∨ x ∈ TV.namesAll ts) ↔ x ∈ t.names) → Fr g L h₁ (fun z => if [Str.ofString "part"].contains z then u z else m z) → News g L h₁ ((aS, listOf (us ++ [Value.ref b]).toArray k) :: (aF, oF) :: news) → CldTurn prog w A s env g L aS aF news t m Q E test body n h₁ tk₁)
    (hE : PassesOwn (model prog w) A env E := by passes_own) :
    wpAny (model prog w) A (exec (.While test body [] pos) env) Q E s := by
  have e9 : TV.sizeAll [t] = t.size := by rw [TV.sizeAll, TV.sizeAll]; rfl
  refine While_inv2 (fun n m' nx => CldJ prog w aS aF news t m n m' nx) F N (n₀ := t.size) ⟨[], oF0, [v], [t], 0, rfl, hd0, TV.allIn_one ht, e9.symm, e9 ▸ hsz, by rw [e9]; simpa using hsz, fun x => by simp [TV.namesAll], st_end fun _ _ => rfl⟩ ?_ hE
  intro n m₁ nx h₁ tk₁ F₁ N₁ J
  refine J.elim (P := fun n m' nx => Fr g L h₁ m' → News g L h₁ nx → CldTurn prog w A s env g L aS aF news t m Q E test body n h₁ tk₁) ?_ F₁ N₁
  intro kvs oF vs ts k u hs hall hsz' hkv hx F₁ N₁
  refine cld_cases hall (P := fun ts vs => TV.sizeAll ts ≤ 20000 → kvs.length + TV.sizeAll ts ≤ 20000 → (∀ x, (x ∈ kvs.map (·.1) ∨ x ∈ TV.namesAll ts) ↔ x ∈ t.names) → News g L h₁ ((aS, listOf vs.toArray k) :: (aF, oF) :: news) → CldTurn prog w A s env g L aS aF news t m Q E test body (TV.sizeAll ts) h₁ tk₁) ?_ ?_ ?_ ?_ ?_ hsz' hkv hx N₁ <;> clear hsz' hkv hx N₁ hall
  · intro _ e2 hx N₁
    exact done kvs oF k u h₁ tk₁ _ hs (by omega) (fun x => by have := hx x; rw [TV.namesAll] at this; simpa using this) F₁ N₁
  · intro ts us z tz g1 hl e1 e2 hx N₁
    have e := sizeAll_snoc ts (.str z)
    rw [TV.size] at e
    exact str kvs oF us ts k u h₁ tk₁ _ z tz hs (by omega) g1 (by omega) (by omega) (by omega) (fun x => names_none (by rw [TV.names]) (hx x)) F₁ N₁
  · intro ts us g1 hl e1 e2 hx N₁
    have e := sizeAll_snoc ts .oth
    rw [TV.size] at e
    exact non kvs oF us ts k u h₁ tk₁ _ hs (by omega) g1 (by omega) (by omega) (by omega) (fun x => names_none (by rw [TV.names]) (hx x)) F₁ N₁
  · intro ts us z tz g1 hl e1 e2 hx N₁
    have e := sizeAll_snoc ts .oth
    rw [TV.size] at e
    exact int kvs oF us ts k u h₁ tk₁ _ z tz hs (by omega) g1 (by omega) (by omega) (by omega) (fun x => names_none (by rw [TV.names]) (hx x)) F₁ N₁
  · intro ts us us' b ws g1 hl hm gw hwl ghead e1 e2 hx N₁
    have e := sizeAll_snoc ts (.tup us')
    rw [size_tup] at e
    have hbS : @Ne Nat aS b := fun e => hS _ hm e.symm
    refine cld_tup gw ghead (P := fun us' ws => ws.length ≤ 1000 → (b, tup ws) ∈ news → TV.AllIn news (ts ++ us'.reverse) (us ++ ws.reverse) → TV.sizeAll (ts ++ [.tup us']) = TV.sizeAll ts + (1 + TV.sizeAll us') → TV.sizeAll (ts ++ us'.reverse) = TV.sizeAll ts + TV.sizeAll us' → TV.sizeAll (ts ++ [.tup us']) ≤ 20000 → kvs.length + TV.sizeAll (ts ++ [.tup us']) ≤ 20000 → (∀ x, (x ∈ kvs.map (·.1) ∨ x ∈ TV.namesAll (ts ++ [.tup us'])) ↔ x ∈ t.names) →
      CldTurn prog w A s env g L aS aF news t m Q E test body (TV.sizeAll (ts ++ [.tup us'])) h₁ tk₁) ?_ ?_ ?_ hwl hm (TV.allIn_append g1 (TV.allIn_rev gw)) e (by rw [TV.sizeAll_append, TV.sizeAll_rev]) e1 e2 hx <;> clear hwl hm e e1 e2 hx gw
    · intro t1 t3 x1 x3 nm tc tn _ hm hall' e e' e1 e2 hx
      exact call kvs oF us _ k u h₁ tk₁ _ b x1 x3 nm tc tn hs (by omega) hm hbS hall' (by omega) (by omega) (by omega) (fun x => names_call (hx x)) F₁ N₁
    · intro us' x1 x2 x3 c tc hcc hc _ hm hall' e e' e1 e2 hx
      exact four kvs oF us _ k u h₁ tk₁ _ b x1 x2 x3 c tc hs (by omega) hm hbS hcc hall' (by omega) (by omega) (by omega) (fun x => names_rev hc (hx x)) F₁ N₁
    · intro h4 hc hwl hm hall' e e' e1 e2 hx
      exact tpl kvs oF us _ k u h₁ tk₁ _ b ws hs (by omega) hm hbS h4 hwl hall' (by omega) (by omega) (by omega) (fun x => names_rev hc (hx x)) F₁ N₁
end Mine
end

section
open PySem PySem.W PyProof.Rows PySem.Calls PySem.Spec
set_option maxRecDepth 100000
namespace Mine
theorem dict_nodup {prog : Program} {w : World} {o : Obj} {kvs : List (Str × Value)} (h : o.IsDictOf (PySem.strKind prog w) kvs) : (kvs.map (·.1)).Nodup := by
  obtain ⟨_, _, _, _, _, _, h⟩ := h
  exact h
theorem len_pos (us : List Value) (y : Value) : 0 < (us ++ [y]).length := by simp
set_option maxHeartbeats 4000000 in
theorem called_use {prog : Program} {w : World} {mean : ExcName → Option Value} {mg mb : Str → Option Value} {v : Value} {t : TV} {news : Led}
    {dp u : Nat} {gd : Option (List Code)} {cn : Str} {cs : Scope} {a : Addr} {ccd : Value} {cl : List (Str × Addr)} {outer : List Env} {A₀ : Around} {base h₀ : Heap} {L : Addr} {m : Str → Option Value} {s : Shared} {Q E : Value → Shared → Prop}
    (B : Below A₀ base outer h₀) (F : Fr h₀ L s.heap m) (X : (hd.heap_1_39 w.params).In h₀) (N : News h₀ L s.heap news) (T : Top hd.view_1_40 (looseW hd.view_1_40 [Str.ofString "GateloomError"]) mean mg mb h₀) (hk : cs.kind = .function)
    (ht : t.In news v) (hsz : t.size ≤ 20000) (hd : dp + 5 < recursionLimit) (hu : u + 200 < cLine)
    (hret : ∀ D vs' ks n' h' tk', StrsAre vs' ks → ks.Nodup → (∀ x, x ∈ ks ↔ x ∈ t.names) → (∀ p ∈ news, p.1 ≠ D) → Fr h₀ L h' m → News h₀ L h' ((D, listOf vs'.toArray n') :: news) → Q (.ref D) { s with heap := h', toks := tk' }) :
    wpAny (model prog w) (ktrTop dp u gd cn cs L a ccd cl outer) (call (.ref 87) [v]) Q E s := by
  w_top off
  k_with_none
  (k_with "nepick" => (first | (refine Nat.ne_of_lt ?_; first | exact Mine.pl_0 (by with_reducible assumption) | exact Mine.pl_1 (by with_reducible assumption) | exact Mine.pl_2 (by with_reducible assumption) | exact Mine.pl_3 (by with_reducible assumption) | exact Mine.pl_4 (by with_reducible assumption) | exact Mine.pl_5 (by with_reducible assumption) | exact Mine.pl_6 (by with_reducible assumption) | exact Mine.pl_7 (by with_reducible assumption) | exact Mine.pl_8 (by with_reducible assumption) | exact Mine.pl_9 (by with_reducible assumption) | exact Mine.pl_10 (by with_reducible assumption) | exact Mine.pl_11 (by with_reducible assumption) | exact Mine.pl_12 (by with_reducible assumption) | exact Mine.pl_13 (by with_reducible assumption) | exact Mine.pl_14 (by with_reducible assumption) | exact Mine.pl_15 (by with_reducible assumption) | exact Mine.pl_16 (by with_reducible assumption) | (refine Nat.lt_succ_of_lt ?_; first | exact Mine.pl_0 (by with_reducible assumption) | exact Mine.pl_1 (by with_reducible assumption) | exact Mine.pl_2 (by with_reducible assumption) | (refine Nat.lt_succ_of_lt ?_; first | exact Mine.pl_0 (by with_reducible assumption) | exact Mine.pl_1 (by with_reducible assumption) | exact Mine.pl_2 (by with_reducible assumption) | (refine Nat.lt_succ_of_lt ?_; first | exact Mine.pl_0 (by with_reducible assumption) | exact Mine.pl_1 (by with_reducible assumption) | exact Mine.pl_2 (by with_reducible assumption) | (refine Nat.lt_succ_of_lt ?_; first | exact Mine.pl_0 (by with_reducible assumption) | exact Mine.pl_1 (by with_reducible assumption) | exact Mine.pl_2 (by with_reducible assumption) | (refine Nat.lt_succ_of_lt ?_; first | exact Mine.pl_0 (by with_reducible assumption) | exact Mine.pl_1 (by with_reducible assumption) | exact Mine.pl_2 (by with_reducible assumption))))))) | (refine Ne.symm (Nat.ne_of_lt ?_); first | exact Mine.pl_0 (by with_reducible assumption) | exact Mine.pl_1 (by with_reducible assumption) | exact Mine.pl_2 (by with_reducible assumption) | exact Mine.pl_3 (by with_reducible assumption) | exact Mine.pl_4 (by with_reducible assumption) | exact Mine.pl_5 (by with_reducible assumption) | exact Mine.pl_6 (by with_reducible assumption) | exact Mine.pl_7 (by with_reducible assumption) | exact Mine.pl_8 (by with_reducible assumption) | exact Mine.pl_9 (by with_reducible assumption) | exact Mine.pl_10 (by with_reducible assumption) | exact Mine.pl_11 (by with_reducible assumption) | exact Mine.pl_12 (by with_reducible assumption) | exact Mine.pl_13 (by with_reducible assumption) | exact Mine.pl_14 (by with_reducible assumption) | exact Mine.pl_15 (by with_reducible assumption) | exact Mine.pl_16 (by with_reducible assumption))))
  (k_with "@units_room" => (have hcL' := cLine_is; simp only [units_in1, units_deeper, Around.mark_units]; dsimp only [ktrTop]; omega))
  (k_with "@k_all" => assumption)
  (k_with "@k_ne" => (refine neN ?_; (try dsimp only); first | with_reducible assumption | (refine Ne.symm ?_; with_reducible assumption) | k_extra "nepick"))
  (k_with "@k_mem" => (refine List.mem_cons_of_mem _ ?_; k_mem))
  (k_with "call builtin:len" => (k_here; k_dflt (first | (refine' my_lenB (by k_asm) (by k_mem) ?hzZq ?_; (case hzZq => first | omega | (simp only [List.length_append, List.length_cons, List.length_nil]; omega))) | (refine' my_lenT (by k_asm) (by k_mem) ?hzZq ?_; (case hzZq => first | omega | exact Nat.le_of_ble_eq_true rfl); (try dsimp only [List.length_cons, List.length_nil]))); (try dsimp only)))
  (k_with "call type:list" => (k_here; (with_reducible show wpAny _ _ (call (Value.type "list") [Value.ref _]) _ _ _); k_dflt (refine' my_keys ?k0Zq ?k1Zq ?k2Zq ?k3Zq ?k4Zq ?k5Zq ?k6Zq ?_; (case k0Zq => rfl); (case k1Zq => k_asm); (case k2Zq => k_asm); (case k3Zq => k_mem); (case k4Zq => assumption); (case k5Zq => assumption); (case k6Zq => omega)); intro _ _ _ _ _ _ _ _ _; (try dsimp only)))
  (k_with "call builtin:list.pop" => (k_here; (with_reducible show wpAny _ _ (call (Value.builtin _) [Value.ref _]) _ _ _); k_dflt (refine' my_pop ?FZq ?NZq ?UZq ?zZq ?_; (case FZq => k_asm); (case NZq => k_asm); (case UZq => k_updF); (case zZq => omega)); intro _ _ _; (try dsimp only)))
  (k_with "call type:reversed" => (k_here; k_dflt (refine' my_rev ?FZq ?NZq ?mZq ?zZq ?_; (case FZq => k_asm); (case NZq => k_asm); (case mZq => k_mem); (case zZq => omega)); intro _ _ _ _ _ _; (try dsimp only)))
  (k_with "call builtin:list.extend" => (k_here; k_dflt (refine' my_ext ?hhZq ?FZq ?NZq ?UZq ?mZq ?ltZq ?neZq ?zZq ?lZq ?_; (case hhZq => rfl); (case FZq => k_asm); (case NZq => k_asm); (case UZq => k_updF); (case mZq => k_mem); (case ltZq => assumption); (case neZq => first | assumption | k_ne); (case zZq => omega); (case lZq => omega)); intro _ _ _ _ _; (try dsimp only)))
  (k_with "setItem" => (k_here; k_dflt (refine' my_put ?FZq ?NZq ?UZq ?hdZq ?zZq ?_; (case FZq => k_asm); (case NZq => k_asm); (case UZq => k_updF); (case hdZq => assumption); (case zZq => omega)); intro _ _ _ _ _; (try dsimp only)))
  (k_with "subscriptTail" => (k_here; (with_reducible show wpAny _ _ (subscriptTail _ _ (Value.ref _) (Value.int _ _)) _ _ _); k_dflt (refine' my_tup (by k_asm) (by k_mem) (by decide) (by decide) ?hxZq ?_; (case hxZq => exact rfl)); (try dsimp only)))
  (k_with "exec While" => (refine Blk.mk ?_))
  refine wpAny_call ?_
  k_dflt ktr_enter
  rename Fr _ _ _ (fun y => List.lookup y _) => F9
  replace F9 : Fr _ _ _ (fun y => ([(Str.ofString "node", v)] : List (Str × Value)).lookup y) := F9
  k_steps
  refine Blk.out ?_
  rename_i aF _ oF lA lo9 hs9 _ _ _ _ aS _ lB _ F9 N9
  have h1 := off_lt (tb_ltOf lB.2)
  have h2 := off_lt lA
  have hne : @Ne Nat aF aS := Nat.ne_of_lt lB.1
  refine While_cld F9 N9 hs9 ht hsz h1 ?_ ?_ ?_ ?_ ?_ ?_ ?_
  · intro kvs oF k u h₁ tk₁ n hs hkl hx F₁ N₁
    unfold CldTurn
    k_steps
    rename_i D9 c9 h9 tk9 vs9 F8 N8 l9 hks9 kF9 kN9 _ _
    exact hret _ _ _ _ _ _ hks9 (dict_nodup hs) hx (fun p hp => Nat.ne_of_lt (l9 p (.tail _ (.tail _ hp)))) kF9 (newsSub kN9 fun p hp => (List.mem_cons.mp hp).elim (fun e => e ▸ .head _) fun hp => .tail _ (.tail _ (.tail _ hp)))
  · intro kvs oF us ts k u h₁ tk₁ n z tz hs hus hall hn hsz' hkv hx F₁ N₁
    have hpos := len_pos us (.str z tz)
    unfold CldTurn
    k_steps
    exact cld_end (by assumption) (by assumption) hs hall hn hsz' hkv hx (fun z hz => skip1 hz)
  · intro kvs oF us ts k u h₁ tk₁ n hs hus hall hn hsz' hkv hx F₁ N₁
    have hpos := len_pos us .none
    unfold CldTurn
    k_steps
    exact cld_end (by assumption) (by assumption) hs hall hn hsz' hkv hx (fun z hz => skip1 hz)
  · intro kvs oF us ts k u h₁ tk₁ n z tz hs hus hall hn hsz' hkv hx F₁ N₁
    have hpos := len_pos us (.int z tz)
    unfold CldTurn
    k_steps
    exact cld_end (by assumption) (by assumption) hs hall hn hsz' hkv hx (fun z hz => skip1 hz)
  · intro kvs oF us ts k u h₁ tk₁ n b x1 x3 nm tc tn hs hus hm hbS hall hn hsz' hkv hx F₁ N₁
    have h4 : ([.str (Str.ofString "call") tc, x1, .str nm tn, x3] : List Value).length = 4 := rfl
    have hpos := len_pos us (.ref b)
    unfold CldTurn
    k_steps
    all_goals try (exfalso; omega)
    have hsl := stored_len kvs nm (.bool true)
    exact cld_end (by assumption) (by assumption) (by assumption) hall hn hsz' (by omega) (fun x => (or_congr_left (stored_mem kvs nm (.bool true) x)).trans (hx x)) (fun z hz => skip1 hz)
  · intro kvs oF us ts k u h₁ tk₁ n b x1 x2 x3 c tc hs hus hm hbS hcc hall hn hsz' hkv hx F₁ N₁
    have h4 : ([.str c tc, x1, x2, x3] : List Value).length = 4 := rfl
    have hpos := len_pos us (.ref b)
    unfold CldTurn
    k_steps
    all_goals try (exfalso; omega)
    · exact absurd (eq_of_beq (by assumption)) hcc
    exact cld_end (by assumption) (by assumption) hs hall hn hsz' hkv hx (fun z hz => skip1 hz)
  · intro kvs oF us ts k u h₁ tk₁ n b ws hs hus hm hbS h4 hwl hall hn hsz' hkv hx F₁ N₁
    have hpos := len_pos us (.ref b)
    have h4' : (ws.length : Int) ≠ 4 := by omega
    unfold CldTurn
    k_steps
    all_goals try (exfalso; omega)
    exact cld_end (by assumption) (by assumption) hs hall hn hsz' hkv hx (fun z hz => skip1 hz)
end Mine
end

section
open PySem PySem.W PyProof.Rows PySem.Calls PySem.Spec
set_option maxRecDepth 100000
namespace Mine
/-- a text of one sign -/
noncomputable def ch (c : Nat) : Str := ⟨#[c]⟩
section
variable {prog : Program} {w : World} {A : Around} {E : Value → Shared → Prop} {s : Shared}
theorem item_ch {x : Str} {i c : Nat} (h : x.cps.toList[i]? = some c) : Txt.item x (i : Int) = ch c := by
  have hi := (List.getElem?_eq_some_iff.mp h).1
  rw [Array.length_toList] at hi
  have e : seqIndex? (i : Int) x.length = some i := by
    unfold seqIndex?
    simp only [Int.not_lt.mpr (Int.natCast_nonneg i), if_false]
    rw [if_pos (by simp only [Bool.and_eq_true, decide_eq_true_eq]; exact ⟨Int.natCast_nonneg i, by exact_mod_cast hi⟩)]
    simp
  have e2 : Txt.charAt x (i : Int) = some c := by
    unfold Txt.charAt
    rw [e]
    show x.cps[i]? = some c
    rw [← Array.getElem?_toList]; exact h
  unfold Txt.item ch
  rw [e2]; rfl
theorem my_len_s {x : Str} {t : Tok} {Q : Value → Shared → Prop} (hx : x.cps.size ≤ 1000) (h : Q (.int (x.cps.size : Nat) (s.toks + 1)) { s with toks := s.toks + 1 + 1 }) : wpAny (model prog w) A (PySem.call (.builtin "len") [.str x t]) Q E s :=
  len_str (by have : x.length = x.cps.size := rfl
              omega) h
theorem my_ch {value slice : PySem.Expr} {x : Str} {t u : Tok} {i c : Nat} {Q : Value → Shared → Prop} (hx : x.cps.size ≤ 1000) (hc : x.cps.toList[i]? = some c) (h : ∀ t', Q (.str (ch c) t') { s with toks := s.toks + 1 })
    (hs : subscripted slice false (.str x t) (.int (i : Int) u) = operate [.str x t, .int (i : Int) u] (getItem (.str x t) (.int (i : Int) u)) := by with_unfolding_all rfl)
    (ht : ∀ r, letTemporaryGo value (.str x t) r = pure () := by intro _; with_unfolding_all rfl) :
    wpAny (model prog w) A (subscriptTail value slice (.str x t) (.int (i : Int) u)) Q E s := by
  have hi := (List.getElem?_eq_some_iff.mp hc).1
  rw [Array.length_toList] at hi
  refine KXi.item (n := x.cps.size) rfl (by omega) (by omega) (by omega) (fun _ => ?_) hs ht
  rw [item_ch hc]
  exact h _
end
noncomputable def isD (c : Nat) : Bool := 48 ≤ c && c ≤ 57
mutual
/-- what names_path says of a text: outside a mark; within one -/
noncomputable def np0 : List Nat → Bool
  | [] => false
  | c :: r => if c = 37 then np1 r else np0 r
noncomputable def np1 : List Nat → Bool
  | [] => false
  | c :: r => if isD c then np1 r else if c = 109 ∨ c = 77 then true else np0 r
end
theorem ch_ne (c d : Nat) : (ch c != ch d) = decide (c ≠ d) := by
  by_cases h : c = d
  · subst h; simp
  · have : ch c ≠ ch d := fun e => h (by simpa [ch] using e)
    simp [h, this]
theorem dig_ch : ∀ c < 128, Txt.isdigit (ch c) = isD c := by decide +kernel
theorem drop_at {l : List Nat} {i c : Nat} (h : l[i]? = some c) : l.drop i = c :: l.drop (i + 1) := by
  obtain ⟨hi, rfl⟩ := List.getElem?_eq_some_iff.mp h
  exact List.drop_eq_getElem_cons hi
theorem np0_at {l : List Nat} {i c : Nat} (h : l[i]? = some c) : np0 (l.drop i) = if c = 37 then np1 (l.drop (i + 1)) else np0 (l.drop (i + 1)) := by rw [drop_at h, np0]
theorem np1_at {l : List Nat} {i c : Nat} (h : l[i]? = some c) : np1 (l.drop i) = if isD c then np1 (l.drop (i + 1)) else if c = 109 ∨ c = 77 then true else np0 (l.drop (i + 1)) := by rw [drop_at h, np1]
theorem occ_ch : ∀ d < 128, (Builtin.Str.occurrences (Str.ofString "mM") (ch d) 0 (Str.ofString "mM").length 1).isEmpty = !(decide (d = 109 ∨ d = 77)) := by decide +kernel
end Mine
end

section
open PySem PySem.W PyProof.Rows PySem.Calls PySem.Spec
set_option maxRecDepth 100000
namespace Mine
theorem at_up {n : Str} {i : Nat} {tk : Tok} {w : Option Value} {f : Str → Option Value} : (fun y => if y = n then some (Value.int ((i : Int) + 1) tk) else if y = n then w else f y) = fun y => if y = n then some (Value.int ((i + 1 : Nat) : Int) tk) else f y := by
  funext y
  by_cases hy : y = n
  · simp only [if_pos hy]; rfl
  · simp only [if_neg hy]
theorem item_c {x : Str} {i : Nat} (h : i < x.cps.size) {G : Prop} (k : ∀ c, x.cps.toList[i]? = some c → G) : G := k _ (List.getElem?_eq_getElem (by rw [Array.length_toList]; exact h))
theorem While_num {prog : Program} {w : World} {A : Around} {E : Value → Shared → Prop} {Q : Flow → Shared → Prop} {s : Shared} {env : Env} {h₀ : Heap} {L : Addr} {test : PySem.Expr} {body : List Stmt} {pos : Pos} {m : Str → Option Value} {news : Led} (nm : Str) (f : Str → Option Value) (B : Nat) (P : Nat → Prop)
    (F : Fr h₀ L s.heap m) (N : News h₀ L s.heap news) (hJ : ∃ i t, i ≤ B ∧ P i ∧ m = fun y => if y = nm then some (.int (i : Nat) t) else f y)
    (turn : ∀ i t h₁ tk₁, i ≤ B → P i → Fr h₀ L h₁ (fun y => if y = nm then some (.int (i : Nat) t) else f y) → News h₀ L h₁ news →
      wpAny (model prog w) A (isTrue test env (eval test env)) (fun b s₂ => if b = true then wpAny (model prog w) A (execs body env) (WhileStep2 h₀ L s (fun n m nx => nx = news ∧ ∃ i t, i ≤ B ∧ n = B - i ∧ P i ∧ m = fun y => if y = nm then some (.int (i : Nat) t) else f y) Q (B - i)) E s₂ else Q .next s₂) E { s with heap := h₁, toks := tk₁ })
    (hE : PassesOwn (model prog w) A env E := by passes_own) :
    wpAny (model prog w) A (exec (.While test body [] pos) env) Q E s := by
  obtain ⟨i, t, hi, hp, rfl⟩ := hJ
  refine While_inv2 (fun n m nx => nx = news ∧ ∃ i t, i ≤ B ∧ n = B - i ∧ P i ∧ m = fun y => if y = nm then some (.int (i : Nat) t) else f y) F N (n₀ := B - i) ⟨rfl, i, t, hi, rfl, hp, rfl⟩ ?_ hE
  rintro n m₁ nx h₁ tk₁ F₁ N₁ ⟨rfl, i, t, hi, rfl, hp, rfl⟩
  exact turn i t h₁ tk₁ hi hp F₁ N₁
set_option maxHeartbeats 4000000 in
theorem np_use {prog : Program} {w : World} {mean : ExcName → Option Value} {mg mb : Str → Option Value} {x : Str} {tx : Tok} {news : Led}
    {dp u : Nat} {gd : Option (List Code)} {cn : Str} {cs : Scope} {a : Addr} {ccd : Value} {cl : List (Str × Addr)} {outer : List Env} {A₀ : Around} {base h₀ : Heap} {L : Addr} {m : Str → Option Value} {s : Shared} {Q E : Value → Shared → Prop}
    (B : Below A₀ base outer h₀) (F : Fr h₀ L s.heap m) (X : (hd.heap_1_39 w.params).In h₀) (N : News h₀ L s.heap news) (T : Top hd.view_1_40 (looseW hd.view_1_40 [Str.ofString "GateloomError"]) mean mg mb h₀) (hk : cs.kind = .function)
    (hx : x.cps.size ≤ 1000) (hasc : ∀ c ∈ x.cps.toList, c < 128) (hd : dp + 5 < recursionLimit) (hu : u + 200 < cLine)
    (hret : ∀ h' tk', Fr h₀ L h' m → News h₀ L h' news → Q (.bool (np0 x.cps.toList)) { s with heap := h', toks := tk' }) :
    wpAny (model prog w) (ktrTop dp u gd cn cs L a ccd cl outer) (call (.ref 68) [.str x tx]) Q E s := by
  w_top off
  k_with_none
  (k_with "nepick" => (first | (refine Nat.ne_of_lt ?_; first | exact Mine.pl_0 (by with_reducible assumption) | exact Mine.pl_1 (by with_reducible assumption) | exact Mine.pl_2 (by with_reducible assumption) | exact Mine.pl_3 (by with_reducible assumption) | exact Mine.pl_4 (by with_reducible assumption) | exact Mine.pl_5 (by with_reducible assumption) | exact Mine.pl_6 (by with_reducible assumption) | exact Mine.pl_7 (by with_reducible assumption) | exact Mine.pl_8 (by with_reducible assumption) | exact Mine.pl_9 (by with_reducible assumption) | exact Mine.pl_10 (by with_reducible assumption) | exact Mine.pl_11 (by with_reducible assumption) | exact Mine.pl_12 (by with_reducible assumption) | exact Mine.pl_13 (by with_reducible assumption) | exact Mine.pl_14 (by with_reducible assumption) | exact Mine.pl_15 (by with_reducible assumption) | exact Mine.pl_16 (by with_reducible assumption) | (refine Nat.lt_succ_of_lt ?_; first | exact Mine.pl_0 (by with_reducible assumption) | exact Mine.pl_1 (by with_reducible assumption) | exact Mine.pl_2 (by with_reducible assumption) | (refine Nat.lt_succ_of_lt ?_; first | exact Mine.pl_0 (by with_reducible assumption) | exact Mine.pl_1 (by with_reducible assumption) | exact Mine.pl_2 (by with_reducible assumption) | (refine Nat.lt_succ_of_lt ?_; first | exact Mine.pl_0 (by with_reducible assumption) | exact Mine.pl_1 (by with_reducible assumption) | exact Mine.pl_2 (by with_reducible assumption) | (refine Nat.lt_succ_of_lt ?_; first | exact Mine.pl_0 (by with_reducible assumption) | exact Mine.pl_1 (by with_reducible assumption) | exact Mine.pl_2 (by with_reducible assumption) | (refine Nat.lt_succ_of_lt ?_; first | exact Mine.pl_0 (by with_reducible assumption) | exact Mine.pl_1 (by with_reducible assumption) | exact Mine.pl_2 (by with_reducible assumption))))))) | (refine Ne.symm (Nat.ne_of_lt ?_); first | exact Mine.pl_0 (by with_reducible assumption) | exact Mine.pl_1 (by with_reducible assumption) | exact Mine.pl_2 (by with_reducible assumption) | exact Mine.pl_3 (by with_reducible assumption) | exact Mine.pl_4 (by with_reducible assumption) | exact Mine.pl_5 (by with_reducible assumption) | exact Mine.pl_6 (by with_reducible assumption) | exact Mine.pl_7 (by with_reducible assumption) | exact Mine.pl_8 (by with_reducible assumption) | exact Mine.pl_9 (by with_reducible assumption) | exact Mine.pl_10 (by with_reducible assumption) | exact Mine.pl_11 (by with_reducible assumption) | exact Mine.pl_12 (by with_reducible assumption) | exact Mine.pl_13 (by with_reducible assumption) | exact Mine.pl_14 (by with_reducible assumption) | exact Mine.pl_15 (by with_reducible assumption) | exact Mine.pl_16 (by with_reducible assumption))))
  (k_with "@units_room" => (have hcL' := cLine_is; simp only [units_in1, units_deeper, Around.mark_units]; dsimp only [ktrTop]; omega))
  (k_with "@k_all" => assumption)
  (k_with "@k_ne" => (refine neN ?_; (try dsimp only); first | with_reducible assumption | (refine Ne.symm ?_; with_reducible assumption) | k_extra "nepick"))
  (k_with "call builtin:len" => (k_here; (with_reducible show wpAny _ _ (call (Value.builtin "len") [Value.str _ _]) _ _ _); k_dflt (refine my_len_s (by assumption) ?_); (try dsimp only)))
  (k_with "subscriptTail Name Name str int" => (k_here; (with_reducible show wpAny _ _ (subscriptTail _ _ (Value.str _ _) (Value.int _ _)) _ _ _); k_dflt (refine' my_ch ?aZq ?bZq ?_; (case aZq => assumption); (case bZq => assumption)); intro _; (try dsimp only)))
  (k_with "exec While" => (refine Blk.mk ?_))
  refine wpAny_call ?_
  k_dflt ktr_enter
  rename Fr _ _ _ (fun y => List.lookup y _) => F9
  replace F9 : Fr _ _ _ (fun y => ([(Str.ofString "template", .str x tx)] : List (Str × Value)).lookup y) := F9
  k_steps
  refine Blk.out ?_
  rename_i F9 N9
  refine While_num (Str.ofString "at") (fun y => List.lookup y [(Str.ofString "template", .str x tx)]) (x.cps.size + 1) (fun i => np0 (x.cps.toList.drop i) = np0 x.cps.toList) F9 N9 ⟨0, _, Nat.zero_le _, rfl, rfl⟩ ?_
  · intro i t h₁ tk₁ hi hnp F₁ N₁
    by_cases hi2 : x.cps.size ≤ i
    · have hlt : ¬ (i : Int) < (x.cps.size : Int) := by omega
      have e0 : np0 x.cps.toList = false := by rw [← hnp, List.drop_of_length_le (by rw [Array.length_toList]; exact hi2)]; rfl
      k_steps
      rename News h₀ L _ _ => kN9
      rename Fr h₀ L _ _ => kF9
      rw [e0] at hret
      exact hret _ _ kF9 kN9
    · refine item_c (x := x) (i := i) (by omega) ?_
      intro c hc
      have hlt : (i : Int) < (x.cps.size : Int) := by omega
      rw [np0_at hc] at hnp
      k_steps
      · rename_i F9 N9
        have hne : c ≠ 37 := by rename (_ = true) => hb; rw [show Str.ofString "%" = ch 37 from by decide +kernel, ch_ne] at hb; simpa using hb
        rw [if_neg hne] at hnp
        exact ⟨_, _, _, _, x.cps.size + 1 - (i + 1), rfl, F9, N9, by omega, rfl, i + 1, _, by omega, rfl, hnp, at_up⟩
      · refine Blk.out ?_
        rename_i F9 N9
        have hne : c = 37 := by rename (_ = false) => hb; rw [show Str.ofString "%" = ch 37 from by decide +kernel, ch_ne] at hb; simpa using hb
        rw [if_pos hne] at hnp
        refine While_num (Str.ofString "at") (fun y => List.lookup y [(Str.ofString "template", .str x tx)]) x.cps.size (fun j => i + 1 ≤ j ∧ np1 (x.cps.toList.drop j) = np0 x.cps.toList) F9 N9 ⟨i + 1, _, by omega, ⟨Nat.le_refl _, hnp⟩, at_up⟩ ?_
        · intro j t2 h₂ tk₂ hj hjp F₂ N₂
          have hij := hjp.1
          have hnp2 := hjp.2
          clear hjp
          clear F9 N9
          by_cases hj2 : j = x.cps.size
          · have hlt2 : ¬ (j : Int) < (x.cps.size : Int) := by omega
            k_steps
            rename_i F9 N9
            have e0 : np0 x.cps.toList = false := by rw [← hnp2, List.drop_of_length_le (by rw [Array.length_toList]; omega)]; rfl
            exact ⟨_, _, _, _, x.cps.size + 1 - (j + 1), rfl, F9, N9, by omega, rfl, j + 1, _, by omega, rfl, by rw [List.drop_of_length_le (by rw [Array.length_toList]; omega), e0]; rfl, at_up⟩
          · refine item_c (x := x) (i := j) (by omega) ?_
            intro d hdd
            have hlt2 : (j : Int) < (x.cps.size : Int) := by omega
            have hda := dig_ch d (hasc d (List.mem_of_getElem? hdd))
            have hoc := occ_ch d (hasc d (List.mem_of_getElem? hdd))
            rw [np1_at hdd] at hnp2
            clear hc
            k_steps
            · rename (Txt.isdigit _ = true) => hb
              rename_i F9 N9
              rw [hda] at hb
              rw [if_pos hb] at hnp2
              exact ⟨_, _, _, _, x.cps.size - (j + 1), rfl, F9, N9, by omega, rfl, j + 1, _, by omega, rfl, ⟨by omega, hnp2⟩, at_up⟩
            · rename (Txt.isdigit _ = false) => hb
              rename (List.isEmpty _ = true) => ho
              rename_i F9 N9
              rw [hda] at hb
              rw [hoc] at ho
              rw [if_neg (by rw [hb]; decide), if_neg (by simpa using ho)] at hnp2
              exact ⟨_, _, _, _, x.cps.size + 1 - (j + 1), rfl, F9, N9, by omega, rfl, j + 1, _, by omega, rfl, hnp2, at_up⟩
            · rename (Txt.isdigit _ = false) => hb
              rename (List.isEmpty _ = false) => ho
              rw [hda] at hb
              rw [hoc] at ho
              rw [if_neg (by rw [hb]; decide), if_pos (by simp only [Bool.not_eq_false', decide_eq_true_eq] at ho; exact ho)] at hnp2
              dsimp only [WhileStep2]
              k_steps
              rename News h₀ L _ _ => kN9
              rename Fr h₀ L _ _ => kF9
              rw [← hnp2] at hret
              exact hret _ _ kF9 kN9
end Mine
end

section
open PySem PySem.W PyProof.Rows PySem.Calls PySem.Spec
set_option maxRecDepth 100000
namespace Mine
noncomputable def isMk (x : Str) : Bool := [Str.ofString "%m", Str.ofString "%M", Str.ofString "%0m", Str.ofString "%12M"].any fun y => y == x
theorem StrsAre.get : ∀ {vs : List Value} {xs : List Str}, StrsAre vs xs → ∀ (i : Nat) v, vs[i]? = some v → ∃ x t, v = .str x t ∧ xs[i]? = some x
  | _, _, .nil, i, v, h => by simp at h
  | _, _, .cons y t hr, 0, v, h => by simp at h; exact ⟨y, t, h.symm, rfl⟩
  | _, _, .cons y t hr, i + 1, v, h => by simp at h; simpa using StrsAre.get hr i v h
set_option maxHeartbeats 4000000 in
theorem marked_use {prog : Program} {w : World} {mean : ExcName → Option Value} {mg mb : Str → Option Value} {l : Addr} {vs : List Value} {xs : List Str} {nn : Nat} {news : Led}
    {dp u : Nat} {gd : Option (List Code)} {cn : Str} {cs : Scope} {a : Addr} {ccd : Value} {cl : List (Str × Addr)} {outer : List Env} {A₀ : Around} {base h₀ : Heap} {L : Addr} {m : Str → Option Value} {s : Shared} {Q E : Value → Shared → Prop}
    (B : Below A₀ base outer h₀) (F : Fr h₀ L s.heap m) (X : (hd.heap_1_39 w.params).In h₀) (N : News h₀ L s.heap news) (T : Top hd.view_1_40 (looseW hd.view_1_40 [Str.ofString "GateloomError"]) mean mg mb h₀) (hk : cs.kind = .function)
    (hl : (l, listOf vs.toArray nn) ∈ news) (hs : StrsAre vs xs) (hd : dp + 5 < recursionLimit) (hu : u + 200 < cLine)
    (hret : ∀ h' tk', Fr h₀ L h' m → News h₀ L h' news → Q (.bool (xs.any isMk)) { s with heap := h', toks := tk' }) :
    wpAny (model prog w) (ktrTop dp u gd cn cs L a ccd cl outer) (call (.ref 120) [.ref l]) Q E s := by
  w_top off
  k_with_none
  (k_with "nepick" => (first | (refine Nat.ne_of_lt ?_; first | exact Mine.pl_0 (by with_reducible assumption) | exact Mine.pl_1 (by with_reducible assumption) | exact Mine.pl_2 (by with_reducible assumption) | exact Mine.pl_3 (by with_reducible assumption) | exact Mine.pl_4 (by with_reducible assumption) | exact Mine.pl_5 (by with_reducible assumption) | exact Mine.pl_6 (by with_reducible assumption) | exact Mine.pl_7 (by with_reducible assumption) | exact Mine.pl_8 (by with_reducible assumption) | exact Mine.pl_9 (by with_reducible assumption) | exact Mine.pl_10 (by with_reducible assumption) | exact Mine.pl_11 (by with_reducible assumption) | exact Mine.pl_12 (by with_reducible assumption) | exact Mine.pl_13 (by with_reducible assumption) | exact Mine.pl_14 (by with_reducible assumption) | exact Mine.pl_15 (by with_reducible assumption) | exact Mine.pl_16 (by with_reducible assumption) | (refine Nat.lt_succ_of_lt ?_; first | exact Mine.pl_0 (by with_reducible assumption) | exact Mine.pl_1 (by with_reducible assumption) | exact Mine.pl_2 (by with_reducible assumption) | (refine Nat.lt_succ_of_lt ?_; first | exact Mine.pl_0 (by with_reducible assumption) | exact Mine.pl_1 (by with_reducible assumption) | exact Mine.pl_2 (by with_reducible assumption) | (refine Nat.lt_succ_of_lt ?_; first | exact Mine.pl_0 (by with_reducible assumption) | exact Mine.pl_1 (by with_reducible assumption) | exact Mine.pl_2 (by with_reducible assumption) | (refine Nat.lt_succ_of_lt ?_; first | exact Mine.pl_0 (by with_reducible assumption) | exact Mine.pl_1 (by with_reducible assumption) | exact Mine.pl_2 (by with_reducible assumption) | (refine Nat.lt_succ_of_lt ?_; first | exact Mine.pl_0 (by with_reducible assumption) | exact Mine.pl_1 (by with_reducible assumption) | exact Mine.pl_2 (by with_reducible assumption))))))) | (refine Ne.symm (Nat.ne_of_lt ?_); first | exact Mine.pl_0 (by with_reducible assumption) | exact Mine.pl_1 (by with_reducible assumption) | exact Mine.pl_2 (by with_reducible assumption) | exact Mine.pl_3 (by with_reducible assumption) | exact Mine.pl_4 (by with_reducible assumption) | exact Mine.pl_5 (by with_reducible assumption) | exact Mine.pl_6 (by with_reducible assumption) | exact Mine.pl_7 (by with_reducible assumption) | exact Mine.pl_8 (by with_reducible assumption) | exact Mine.pl_9 (by with_reducible assumption) | exact Mine.pl_10 (by with_reducible assumption) | exact Mine.pl_11 (by with_reducible assumption) | exact Mine.pl_12 (by with_reducible assumption) | exact Mine.pl_13 (by with_reducible assumption) | exact Mine.pl_14 (by with_reducible assumption) | exact Mine.pl_15 (by with_reducible assumption) | exact Mine.pl_16 (by with_reducible assumption))))
  (k_with "@units_room" => (have hcL' := cLine_is; simp only [units_in1, units_deeper, Around.mark_units]; dsimp only [ktrTop]; omega))
  (k_with "@k_all" => assumption)
  (k_with "@k_ne" => (refine neN ?_; (try dsimp only); first | with_reducible assumption | (refine Ne.symm ?_; with_reducible assumption) | k_extra "nepick"))
  (k_with "pyIter ref" => (refine Blk.mk ?_))
  (k_with "exec For" => (k_here; (rename Fr _ _ _ _ => lFpZq); (with_unfolding_all refine' For_invVF lFpZq ?k1Zq ?k2Zq ?_; (case k1Zq => exact rfl); (case k2Zq => exact rfl); k_whole)))
  refine wpAny_call ?_
  k_dflt ktr_enter
  rename Fr _ _ _ (fun y => List.lookup y _) => F9
  replace F9 : Fr _ _ _ (fun y => ([(Str.ofString "pieces", .ref l)] : List (Str × Value)).lookup y) := F9
  k_steps
  refine Blk.out ?_
  rename Fr _ _ _ (fun y => List.lookup y _) => F9
  rename News _ _ _ _ => N9
  refine kdl_iter (vs := vs) (nn := nn) (J := fun i m' nx => nx = news ∧ (xs.take i).any isMk = false ∧ ∃ u : Str → Option Value, m' = fun z => if [Str.ofString "piece"].contains z then u z else List.lookup z [(Str.ofString "pieces", Value.ref l)]) rfl hl F9 N9 ?_ ?_ ?_
  · exact ⟨rfl, rfl, st_end fun _ _ => rfl⟩
  · rintro i v m₁ nx h tk own hv ho _ ⟨rfl, hi, u, rfl⟩ F₁ N₁
    obtain ⟨x, t, rfl, hx⟩ := StrsAre.get hs i v hv
    have hxm : x ∈ xs := List.mem_of_getElem? hx
    have ht : xs.take (i + 1) = xs.take i ++ [x] := by rw [List.take_add_one, hx]; rfl
    k_steps
    · rename (List.any _ _ = true) => hb
      rename News h₀ L _ _ => kN9
      rename Fr h₀ L _ _ => kF9
      have e : xs.any isMk = true := List.any_eq_true.mpr ⟨x, hxm, hb⟩
      rw [e] at hret
      exact hret _ _ kF9 (newsSub kN9 fun p hp => .tail _ (List.mem_append.mpr (.inl hp)))
    · rename (List.any _ _ = false) => hb
      rename News _ _ _ ((_, _) :: _) => N8
      rename Fr _ _ _ (fun y => if y = _ then _ else _) => F8
      refine InvEndG.intro F8 N8 ⟨hl, rfl, ?_, st_end fun z hz => ?_⟩ ho (fun p hp => .tail _ (List.mem_append.mpr (.inl hp))) (fun p hp => .tail _ (List.mem_append.mpr (.inr hp)))
      · have hb' : isMk x = false := hb
        rw [ht, List.any_append, hi, List.any_cons, List.any_nil, hb']; rfl
      · simp at hz
        simp [hz]
  · rintro m₁ nx h tk ⟨rfl, hi, u, rfl⟩ F₁ N₁
    have e : xs.take vs.length = xs := by rw [hs.len_eq, List.take_length]
    rw [e] at hi
    rw [hi] at hret
    k_steps
    rename News h₀ L _ _ => kN9
    rename Fr h₀ L _ _ => kF9
    exact hret _ _ kF9 kN9
end Mine
end

section
open PySem PySem.W PyProof.Rows PySem.Spec
set_option maxRecDepth 100000
namespace Mine
section
variable {prog : Program} {w : World} {A : Around} {E : Value → Shared → Prop} {s : Shared} {a₀ : Array Keyed}
/-- the keys fall strictly, from the first to the last -/
noncomputable def FallK (xs : Array Keyed) (k : Nat) : Prop := ∀ i j, i < j → j < k → K xs j < K xs i
theorem desc_all {st : SortSt} {Q : DescSt → SortSt → Prop} (h0 : IntKeys a₀) (hB : SBase a₀ st) (h2 : 2 ≤ a₀.size) (hf : FallK (arrOf st) a₀.size) (h : Q (none, a₀.size, 0) st) :
    wpS (model prog w) A E s (descLoop 2 a₀.size) Q st := by
  unfold descLoop
  refine wpS_forRange (I := fun x c st' => st' = st ∧ c = (none, x, 0)) ?step ?fin ⟨rfl, rfl⟩
  case fin =>
    rintro c st' ⟨rfl, rfl⟩
    rw [show max 2 a₀.size = a₀.size by omega]
    exact h
  case step =>
    rintro x c st' hx hn ⟨rfl, rfl⟩
    dsimp only
    refine wpS_bind (wpS_ltK hB h0 (by omega) (by omega) ?_)
    have hl : K (arrOf st') x < K (arrOf st') (x - 1) := hf _ _ (by omega) hn
    simp only [hl, decide_true, if_true]
    rw [if_neg (by decide)]
    exact wpS_pure ⟨rfl, rfl⟩
theorem count_all {st : SortSt} {Q : Option Nat → SortSt → Prop} (h0 : IntKeys a₀) (hB : SBase a₀ st) (h2 : 2 ≤ a₀.size) (hf : SortedTo (arrOf st) a₀.size ∨ FallK (arrOf st) a₀.size)
    (h : ∀ st', SBase a₀ st' → SortedTo (arrOf st') a₀.size → Q (some a₀.size) st') : wpS (model prog w) A E s (countRun' 0 a₀.size) Q st := by
  rw [countRun0_eq]
  refine wpS_bind (wpS_ascLoop h0 (Nat.le_refl _) (Nat.le_refl 1) (by omega) hB (fun i j hij hj => by
    obtain rfl : i = j := by omega
    exact Int.le_refl _) fun n hn1 hn2 hsn hor => ?_)
  dsimp only
  by_cases hnn : n = a₀.size
  · rw [if_pos (by simpa using hnn), hnn]
    subst hnn
    exact wpS_pure (h st hB hsn)
  · rw [if_neg (by simpa using hnn)]
    have hlt := hor.resolve_left hnn
    rcases hf with hf | hf
    · exact absurd hlt (Int.not_lt.mpr (hf _ _ (by omega) (by omega)))
    · have hn : n = 1 := by
        rcases Nat.lt_or_ge 1 n with q | q
        · have h1 := hsn 0 1 (by omega) q
          have h2 := hf 0 1 (by omega) (by omega)
          omega
        · omega
      subst hn
      rw [if_neg (by decide)]
      unfold descPart
      refine wpS_bind (wpS_lift (wpAny_rule ⟨rfl, ?_⟩))
      refine wpS_bind (desc_all h0 hB h2 hf ?_)
      dsimp only
      rw [if_neg (by decide)]
      unfold tail3
      have hsz : a₀.size ≤ (arrOf st).size := Nat.le_of_eq hB.size.symm
      refine wpS_bind (wpS_reverse ?_)
      have hB' : SBase a₀ (setArr st (mirror (arrOf st) 0 a₀.size ((a₀.size - 0) / 2))) := hB.setArr (mirror_perm _ _ _ _)
      have hs' : SortedTo (arrOf (setArr st (mirror (arrOf st) 0 a₀.size ((a₀.size - 0) / 2)))) a₀.size := by
        intro i j hij hj
        show K (mirror (arrOf st) 0 a₀.size ((a₀.size - 0) / 2)) i ≤ K (mirror (arrOf st) 0 a₀.size ((a₀.size - 0) / 2)) j
        rw [K_mirror hsz, K_mirror hsz, if_pos (by omega), if_pos (by omega)]
        by_cases e : i = j
        · subst e; exact Int.le_refl _
        · exact Int.le_of_lt (hf _ _ (by omega) (by omega))
      refine wpS_bind (wpS_ascLoop h0 (Nat.le_refl _) (by omega) (Nat.le_refl _) hB' hs' fun m hm1 hm2 hsm _ => ?_)
      obtain rfl : m = a₀.size := by omega
      exact wpS_pure (h _ hB' hs')
theorem minRun_le : ∀ n < 201, minRun' n n 0 ≤ n := by decide +kernel
theorem runs_all {st : SortSt} {Q : Unit → SortSt → Prop} (h0 : IntKeys a₀) (hB : SBase a₀ st) (h2 : 2 ≤ a₀.size) (hb : a₀.size ≤ 200) (hf : SortedTo (arrOf st) a₀.size ∨ FallK (arrOf st) a₀.size)
    (h : ∀ st', (arrOf st').Perm a₀ → failedOf st' = none → SortedTo (arrOf st') a₀.size → Q () st') : wpS (model prog w) A E s sortRuns' Q st := by
  rw [sortRuns'_eq]
  refine wpS_bind (wpS_get ?_)
  dsimp only
  have hmr := minRun_le a₀.size (by omega)
  simp only [hB.size]
  generalize minRun' a₀.size a₀.size 0 = mr at hmr
  refine wpS_bind (wpS_mono (wpS_forRange
    (I := fun x c st' => (x = 0 ∧ c = (none, 0) ∧ st' = st) ∨ (1 ≤ x ∧ c = (none, a₀.size) ∧ SDone a₀ st'))
    (Q := fun c st' => c = (none, a₀.size) ∧ SDone a₀ st') ?step ?fin (.inl ⟨rfl, rfl, rfl⟩)) ?post)
  case fin =>
    rintro c st' (⟨hx, _, _⟩ | ⟨_, hc, hD⟩)
    · omega
    · exact ⟨hc, hD⟩
  case step =>
    rintro x c st' _ hx (⟨rfl, rfl, rfl⟩ | ⟨hx1, rfl, hD⟩)
    · dsimp only
      rw [if_neg (by omega)]
      simp only [Nat.sub_zero, Nat.zero_add]
      refine wpS_bind (count_all h0 hB h2 hf fun st2 hB2 hs2 => ?_)
      dsimp only
      rw [if_neg (by omega)]
      refine wpS_bind (wpS_get ?_)
      have hbk : (pendingOf st2).back? = none := by rw [hB2.pend]; rfl
      rw [hbk]
      dsimp only
      exact wpS_bind (wpS_modify (wpS_pure (.inr ⟨by omega, rfl, hB2.done hs2⟩)))
    · dsimp only
      rw [if_pos (Nat.le_refl _)]
      exact wpS_pure ⟨rfl, hD⟩
  case post =>
    rintro c st' ⟨rfl, hD⟩
    dsimp only
    refine wpS_bind (wpS_mono (wpS_forRange (I := fun _ c st'' => st'' = st' ∧ c = (none, ())) (Q := fun c st'' => st'' = st' ∧ c = (none, ())) ?_ (fun _ _ hh => hh) ⟨rfl, rfl⟩) ?_)
    · rintro x c st'' _ _ ⟨rfl, rfl⟩
      refine wpS_bind (wpS_get ?_)
      rw [if_pos (by rw [hD.2.2.1]; exact Nat.le_refl 1)]
      exact wpS_pure ⟨rfl, rfl⟩
    · rintro c st'' ⟨rfl, rfl⟩
      exact wpS_pure (h _ hD.1 hD.2.1 hD.2.2.2)
end
end Mine
end

section
open PySem PySem.W PyProof.Rows PySem.Spec
set_option maxRecDepth 100000
namespace Mine
theorem k_pairs {vs : List Value} {ns : List Int} (hI : IntsAre vs ns) {i : Nat} (hi : i < vs.length) : K (pairsOf vs) i = ns.getD i 0 := by
  have hs : i < (pairsOf vs).size := by rw [pairsOf_size]; exact hi
  rw [K_eq hs]
  have e : (pairsOf vs)[i].1 = vs[i] := by simp [pairsOf]
  obtain ⟨t, ht⟩ := hI.int_at i vs[i] (List.getElem?_eq_getElem hi)
  rw [e, ht]; rfl
/-- ascending or strictly descending -/
noncomputable def Runs (ns : List Int) : Prop := ns.Pairwise (· ≤ ·) ∨ ns.Pairwise (fun a b => b < a)
theorem Runs.keys {vs : List Value} {ns : List Int} (hI : IntsAre vs ns) (hr : Runs ns) : SortedTo (pairsOf vs) (pairsOf vs).size ∨ FallK (pairsOf vs) (pairsOf vs).size := by
  have hl := hI.length
  rcases hr with hr | hr
  · left
    intro i j hij hj
    rw [pairsOf_size] at hj
    rw [k_pairs hI (by omega), k_pairs hI hj]
    rcases Nat.lt_or_ge i j with q | q
    · rw [← List.getElem_eq_getD (h := by omega) 0, ← List.getElem_eq_getD (h := by omega) 0]
      exact List.pairwise_iff_getElem.mp hr i j (by omega) (by omega) q
    · obtain rfl : i = j := by omega
      exact Int.le_refl _
  · right
    intro i j hij hj
    rw [pairsOf_size] at hj
    rw [k_pairs hI hj, k_pairs hI (i := i) (by omega)]
    rw [← List.getElem_eq_getD (h := by omega) 0, ← List.getElem_eq_getD (h := by omega) 0]
    exact List.pairwise_iff_getElem.mp hr i j (by omega) (by omega) hij
section
variable {prog : Program} {w : World} {A : Around} {E : Value → Shared → Prop} {s : Shared}
theorem sort_run {a : Addr} {vs : List Value} {ns : List Int} {n : Nat} {P : Fin → Shared → Prop} (ho : s.heap.get? a = some (seqObj "list" vs.toArray n))
    (hI : IntsAre vs ns) (hb : vs.length ≤ 200) (hr : Runs ns)
    (h : ∀ (out : Array Value) (ns' : List Int), IntsAre out.toList ns' → ns'.Perm ns → ns'.Pairwise (· ≤ ·) → P (.done (.ret .none)) { s with heap := sortedHeap s.heap a vs out }) :
    wpAny (model prog w) A (Builtin.«list.sort» ⟨[.ref a], []⟩) P E s := by
  by_cases h64 : vs.length < 64
  · exact list_sort_tree ho hI h64 h
  have hkeys := hr.keys hI
  rw [list_sort_plain]
  have ha : a < s.heap.objs.size := Heap.lt_size ho
  refine wpAny_bind (listItems_at ho rfl ?_)
  refine wpAny_bind (listUpdate_at ho rfl ?_ (by simp only [List.size_toArray, sizeLine_eq]; omega) (by simp))
  obtain ⟨e1, ho1⟩ : ∃ e1, (s.heap.update a (Obj.mapSeq fun _ => #[])).get? a = some (seqObj "list" #[] e1) := ⟨_, get?_update_seq ho (fun _ => #[])⟩
  refine wpAny_bind (seqEpoch_at ho1 rfl ?_)
  refine wpAny_bind (wpAny_newTuple ?_)
  refine wpAny_bind (wpAny_newList ?_)
  refine wpAny_holding ?_
  have ho6 : (((s.heap.update a (Obj.mapSeq fun _ => #[])).push (seqObj "tuple" vs.toArray 0)).push (seqObj "list" #[] 0)).get? a = some (seqObj "list" #[] e1) := by
    rw [Heap.get?_push_ne _ _ _ (by rw [size_push', Heap.size_update]; exact Nat.ne_of_lt (Nat.lt_succ_of_lt ha)), Heap.get?_push_ne _ _ _ (by rw [Heap.size_update]; exact Nat.ne_of_lt ha)]
    exact ho1
  show wpAny (model prog w) A _ P E { s with heap := ((s.heap.update a (Obj.mapSeq fun _ => #[])).push (seqObj "tuple" vs.toArray 0)).push (seqObj "list" #[] 0) }
  dsimp only
  have hsz : vs.toArray.size = vs.length := by simp
  rw [if_neg (by omega), if_neg (by omega)]
  obtain ⟨v₁, v₂, rest, rfl⟩ : ∃ v₁ v₂ rest, vs = v₁ :: v₂ :: rest := by
    match vs, h64 with
    | [], h2 => simp at h2
    | [_], h2 => simp at h2
    | v₁ :: v₂ :: rest, _ => exact ⟨v₁, v₂, rest, rfl⟩
  rw [keyKind_ints hI]
  refine wpAny_bind (wpAny_pure ?_)
  refine wpAny_bind (wpAny_mono (runs_all (a₀ := pairsOf (v₁ :: v₂ :: rest)) (st := SortSt.mk' oneType' ((v₁ :: v₂ :: rest).toArray.zip (v₁ :: v₂ :: rest).toArray) #[] 7 none)
    (Q := fun _ st' => (arrOf st').Perm (pairsOf (v₁ :: v₂ :: rest)) ∧ failedOf st' = none ∧ SortedTo (arrOf st') (pairsOf (v₁ :: v₂ :: rest)).size)
    hI.intKeys ⟨Array.Perm.refl _, rfl, rfl, rfl⟩ (by rw [pairsOf_size]; simp) (by rw [pairsOf_size]; exact hb) hkeys fun st' a1 a2 a3 => ⟨a1, a2, a3⟩) ?_ fun _ _ e => e)
  rintro ⟨⟨⟩, st'⟩ s' ⟨rfl, hp, hf, hs⟩
  dsimp only
  refine wpAny_bind (seqEpoch_at ho6 rfl ?_)
  refine wpAny_bind (listUpdate_at ho6 rfl ?_ (by simp) (by rw [Array.size_map, hp.size_eq, pairsOf_size, sizeLine_eq]; omega))
  rw [hf]
  simp only [bne_self_eq_false, Bool.false_eq_true, if_false]
  obtain ⟨ns', h1, h2, h3⟩ := sorted_out hI hp hs
  exact wpAny_pure (h _ ns' h1 h2 h3)
theorem my_sorted {h₀ : Heap} {L : Addr} {m : Str → Option Value} {news : List (Addr × Obj)} {l : Addr} {vs : List Value} {ns : List Int} {Q : Value → Shared → Prop}
    (F : Fr h₀ L s.heap m) (N : News h₀ L s.heap news) (hl : s.heap.IsList l vs.toArray) (hI : IntsAre vs ns) (hb : vs.length ≤ 200) (hr : Runs ns)
    (h : ∀ (h' : Heap) (vs' : List Value) (ns' : List Int) (e : Nat), Fr h₀ L h' m → News h₀ L h' ((s.heap.objs.size + 1, seqObj "list" vs'.toArray e) :: news) →
      IntsAre vs' ns' → ns'.Perm ns → ns'.Pairwise (· ≤ ·) → Q (.ref (s.heap.objs.size + 1)) { s with heap := h' }) :
    wpAny (model prog w) A (call (.builtin "sorted") [.ref l]) Q E s := by
  refine Calls.call_function_entry kind_sorted plain_sorted entry_sorted (args_sorted1 _) ?_
  unfold Builtin.«sorted»
  refine wpAny_bind (m := checkCount "sorted" 1 1 _) (wpAny_pure ?_)
  refine wpAny_bind (collect_list hl ?_ (by rw [sizeLine_eq]; omega))
  refine wpAny_bind (wpAny_newList ?_)
  have hsz : ((s.heap.push (seqObj "list" #[] 0)).update s.heap.objs.size (Obj.mapSeq (· ++ vs.toArray))).objs.size = s.heap.objs.size + 1 := by
    rw [Heap.size_update, size_push']
  have hoL : (((s.heap.push (seqObj "list" #[] 0)).update s.heap.objs.size (Obj.mapSeq (· ++ vs.toArray))).push (seqObj "list" vs.toArray 0)).get? (s.heap.objs.size + 1) = some (seqObj "list" vs.toArray 0) := by
    rw [← hsz]; exact Heap.get?_push_size _ rfl
  show wpAny _ _ _ _ _ { s with heap := ((s.heap.push (seqObj "list" #[] 0)).update s.heap.objs.size (Obj.mapSeq (· ++ vs.toArray))).push (seqObj "list" vs.toArray 0) }
  rw [hsz]
  refine wpAny_bind (wpAny_holding (wpAny_call_entry slot_list_sort ⟨_, hoL, rfl⟩ entry_list_sort (sort_run hoL hI hb hr fun out ns' a1 a2 a3 => ⟨_, rfl, ?_⟩) (args_list_sort _)))
  obtain ⟨e, he⟩ := sortedAll_at s.heap vs out
  exact wpAny_pure ⟨_, rfl, h _ out.toList ns' e (F.kept fun _ _ => sortedAll_old) (N.kept_cons F (fun _ _ => sortedAll_old) (Nat.le_succ _) he) a1 a2 a3⟩
end
end Mine
end

section
open PySem PySem.W PyProof.Rows PySem.Calls PySem.Spec
set_option maxRecDepth 100000
namespace Mine
noncomputable abbrev setO (es : Array (Int × Value)) (ep : Nat) (t : SetTable) : Obj := { cls := .type "set", dict := none, data := .set es ep t, slots := #[] }
theorem lay_led (t : SetTable) (es : Array (Int × Value)) (h : Int) (x : Value) : (layNew t es h x).2.1.led = t.led := by
  unfold layNew SetTable.orStandIn SetTable.put SetTable.standIn
  split <;> dsimp only <;> (repeat' split) <;> rfl
theorem relaid_led {t t' : SetTable} {hs : Array Int} {n : Nat} {o : Array Nat} (h : t.relaid hs n = some (t', o)) : t'.led = t.led ∧ t'.plain = t.plain := by
  unfold SetTable.relaid SetTable.laid at h
  cases hc : SetTable.layClean (SetTable.sizeAbove n - 1) hs with
  | none => rw [hc] at h; cases h
  | some ow =>
    rw [hc] at h
    simp only [Option.bind_eq_bind, Option.bind_some, Option.pure_def, Option.some.injEq, Prod.mk.injEq] at h
    obtain ⟨rfl, _⟩ := h
    exact ⟨rfl, rfl⟩
theorem relay_led (t : SetTable) (es : Array (Int × Value)) (n : Nat) : (relayAll t es n).2.1.led = t.led := by
  unfold relayAll SetTable.standIn
  split
  · rename_i t' o h
    have := relaid_led h
    dsimp only
    split
    · exact this.1
    · rfl
  · rfl
theorem relay_plain (t : SetTable) (es : Array (Int × Value)) (n : Nat) (hp : t.plain = false) : (relayAll t es n).2.1.plain = false := by
  unfold relayAll SetTable.standIn
  split
  · rename_i t' o h
    have := relaid_led h
    dsimp only
    split
    · exact this.2.trans hp
    · rfl
  · rfl
section
variable {prog : Program} {w : World} {A : Around} {E : Value → Shared → Prop} {s : Shared}
theorem store_at {a : Addr} {es es' : Array (Int × Value)} {ep : Nat} {t t' : SetTable} {Q : Unit → Shared → Prop} (ho : s.heap.get? a = some (setO es ep t)) (hb : es'.size < 4000)
    (h : ∀ h', Heap.SameBut a s.heap h' → h'.get? a = some (setO es' (ep + 1) t') → Q () { s with heap := h' }) : wpAny (model prog w) A (storeSet a es' t') Q E s := by
  refine wpAny_storeSet_of ho rfl (h _ (Heap.SameBut.update _ _ _) ?_) (by rw [sizeLine_eq]; omega)
  refine (Heap.get?_update_self _ ho (by rw [putSet_of (o := setO es ep t) es' t' rfl]; rfl)).trans ?_
  rw [putSet_of (o := setO es ep t) es' t' rfl]
theorem add_tail {g : Bool → Sem Unit} (hg : ∀ (b : Bool) (s₁ : Shared) (Q' : Unit → Shared → Prop), Q' () s₁ → wpAny (model prog w) A (g b) Q' E s₁)
    {a : Addr} {es es1 : Array (Int × Value)} {ep : Nat} {t t2 : SetTable} {l : List (Int × Value)} {wasDummy b : Bool} {R : Option Bool → Shared → Prop} (ho : s.heap.get? a = some (setO es ep t)) (hb1 : es1.size < 3001)
    (hperm : List.Perm es1.toList l) (f2 : t2.fits es1.size = true) (l2 : t2.led = b) (p2 : t2.plain = false)
    (new : ∀ es' ep' t' h', Heap.SameBut a s.heap h' → h'.get? a = some (setO es' ep' t') → t'.fits es'.size = true →
      List.Perm es'.toList l → t'.led = b → t'.plain = false → R (some true) { s with heap := h' }) :
        wpAny (model prog w) A (do
          storeSet a es1 t2
          if (!wasDummy && t2.tooFull) = true then do
            g (relayAll t2 es1 (SetTable.grown es1.size)).2.2
            storeSet a (relayAll t2 es1 (SetTable.grown es1.size)).1 (relayAll t2 es1 (SetTable.grown es1.size)).2.1
            pure (some true)
          else pure (some true)) R E s := by
  refine wpAny_bind (store_at ho (by omega) fun h' k1 k2 => ?_)
  split
  · have hp := relayAll_perm t2 es1 (SetTable.grown es1.size)
    have hfr := relayAll_fits t2 es1 (SetTable.grown es1.size)
    have q1 := relay_led t2 es1 (SetTable.grown es1.size)
    have q2 := relay_plain t2 es1 (SetTable.grown es1.size) p2
    generalize relayAll t2 es1 (SetTable.grown es1.size) = Rl at hp hfr q1 q2 ⊢
    obtain ⟨es2, t3, gave2⟩ := Rl
    dsimp only at hp hfr q1 q2 ⊢
    have hb2 : es2.size < 4000 := by rw [← Array.length_toList, hp.length_eq, Array.length_toList]; omega
    refine wpAny_bind (hg _ _ _ ?_)
    refine wpAny_bind (store_at (s := { s with heap := h' }) k2 hb2 fun h2 k3 k4 => ?_)
    exact wpAny_pure (new _ _ _ _ (k1.trans k3) k4 hfr (hp.trans hperm) (q1.trans l2) q2)
  · exact wpAny_pure (new _ _ _ _ k1 k2 f2 hperm l2 p2)
theorem add_one {a : Addr} {es : Array (Int × Value)} {ep : Nat} {t : SetTable} {x : Str} {tk : Tok} {Q : Bool → Shared → Prop} (ho : s.heap.get? a = some (setO es ep t)) (hf : t.fits es.size = true)
    (hel : ElemsOf (PySem.strKind prog w) es.toList) (hb : es.size < 3000)
    (hit : (∃ e ∈ es.toList, Value.isStrOf x e.2 = true) → Q false s)
    (new : (∀ e ∈ es.toList, Value.isStrOf x e.2 = false) → ∀ es' ep' t' h', Heap.SameBut a s.heap h' → h'.get? a = some (setO es' ep' t') → t'.fits es'.size = true →
      List.Perm es'.toList (es.toList ++ [(hashStr w x, .str x tk)]) → t'.led = t.led → t'.plain = false → Q true { s with heap := h' }) :
    wpAny (model prog w) A (setAddHashed a (.str x tk) (hashStr w x)) Q E s := by
  have hkey : (PySem.strKind prog w).is x (.str x tk) = true := by show (x == x) = true; simp
  unfold setAddHashed setAddHashedIn
  refine wpAny_holding (wpAny_bind (wpAny_setState_of ho rfl hf ?_))
  dsimp only
  rw [byScan_of (knd := PySem.strKind prog w) rfl (by unfold scanBound; omega) hel]
  simp only [↓reduceIte]
  unfold setAddByScan
  refine wpAny_bind ?_
  refine wpAny_bind (wpAny_rule ?_)
  refine wpAny_bind (wpAny_setScan_of (knd := PySem.strKind prog w) (k := x) hkey ho rfl hf hel ?_)
  cases hr : List.findIdx? (fun e => (PySem.strKind prog w).is x e.2) es.toList with
  | some j =>
    dsimp only
    obtain ⟨hj, hpj, _⟩ := List.findIdx?_eq_some_iff_getElem.mp hr
    exact wpAny_pure (wpAny_pure (hit ⟨es.toList[j], List.getElem_mem hj, hpj⟩))
  | none =>
    dsimp only
    have hno : ∀ e ∈ es.toList, Value.isStrOf x e.2 = false := List.findIdx?_eq_none_iff.mp hr
    have hperm := layNew_perm t es (hashStr w x) (.str x tk)
    have hfits := layNew_fits t es (hashStr w x) (.str x tk)
    have hled := lay_led t es (hashStr w x) (.str x tk)
    generalize layNew t es (hashStr w x) (.str x tk) = L at hperm hfits hled ⊢
    obtain ⟨es1, t1, wasDummy, gave⟩ := L
    dsimp only at hperm hfits hled ⊢
    rw [Array.toList_push] at hperm
    have hb1 : es1.size < 3001 := by rw [← Array.length_toList, hperm.length_eq, List.length_append, Array.length_toList, List.length_singleton]; omega
    refine wpAny_bind ?_
    have g : ∀ (b : Bool) {s₁ : Shared} {Q' : Unit → Shared → Prop}, Q' () s₁ → wpAny (model prog w) A (match b with | true => rule "set.scan.the-table-gave-way" | false => pure ()) Q' E s₁ :=
      fun b s₁ Q' hq => by cases b <;> first | exact wpAny_pure hq | exact wpAny_rule hq
    refine g _ ?_
    split
    · refine wpAny_bind ?_
      rw [hashByValue_scannable 8 (x := .str x tk) rfl]
      refine wpAny_pure ?_
      refine add_tail ?_ ho hb1 hperm ?_ hled rfl fun es' ep' t' h' a1 a2 a3 a4 a5 a6 => ?_
      · intro b s₁ Q' hq; cases b <;> first | exact wpAny_pure hq | exact wpAny_rule hq
      · exact SetTable.fits_plain_off hfits
      · dsimp only; exact wpAny_pure (new hno _ _ _ _ a1 a2 a3 a4 a5 a6)
    · rename_i hpl
      refine wpAny_bind (wpAny_pure ?_)
      simp only [↓reduceIte]
      refine add_tail ?_ ho hb1 hperm hfits hled (by simpa using hpl) fun es' ep' t' h' a1 a2 a3 a4 a5 a6 => ?_
      · intro b s₁ Q' hq; cases b <;> first | exact wpAny_pure hq | exact wpAny_rule hq
      · dsimp only; exact wpAny_pure (new hno _ _ _ _ a1 a2 a3 a4 a5 a6)
end
end Mine
end

section
open PySem PySem.W PyProof.Rows PySem.Calls PySem.Spec
set_option maxRecDepth 100000
namespace Mine
theorem slot_si_next : Slot "set_iterator" "__next__" "set_iterator.__next__" :=
  .of (owner := "set_iterator") (n := "__next__") (by rw [typeLookup_type, builtinLookup_eq_fast]; kernel_rfl) (by decide +kernel) (by decide +kernel) (by decide +kernel)
    (by first | exact .inl (by decide +kernel) | exact .inr (by decide +kernel)) (by rw [isSubtype_type]; kernel_rfl)
theorem entry_si_next : entryFor table "set_iterator.__next__" = some Builtin.«set_iterator.__next__» := entryFor_of_tree (by kernel_rfl)
theorem args_si_next (a : Value) : argsOk "set_iterator.__next__" ⟨[a], []⟩ := by unfold argsOk; kernel_rfl
theorem slot_si_iter : Slot "set_iterator" "__iter__" "set_iterator.__iter__" :=
  .of (owner := "set_iterator") (n := "__iter__") (by rw [typeLookup_type, builtinLookup_eq_fast]; kernel_rfl) (by decide +kernel) (by decide +kernel) (by decide +kernel)
    (by first | exact .inl (by decide +kernel) | exact .inr (by decide +kernel)) (by rw [isSubtype_type]; kernel_rfl)
theorem entry_si_iter : entryFor table "set_iterator.__iter__" = some Builtin.«dict_keyiterator.__iter__» :=
  entryFor_alias (id' := "dict_keyiterator.__iter__") (by kernel_rfl) (by first | rfl | decide +kernel | (unfold String.splitOn; simp +decide [String.splitOnAux])) (by decide +kernel) (by kernel_rfl)
theorem args_si_iter (a : Value) : argsOk "set_iterator.__iter__" ⟨[a], []⟩ := by unfold argsOk; kernel_rfl
theorem entry_set_iter : entryFor table "set.__iter__" = some Builtin.«frozenset.__iter__» :=
  entryFor_alias (id' := "frozenset.__iter__") (by kernel_rfl) (by first | rfl | decide +kernel | (unfold String.splitOn; simp +decide [String.splitOnAux])) (by decide +kernel) (by kernel_rfl)
theorem args_set_iter (a : Value) : argsOk "set.__iter__" ⟨[a], []⟩ := by unfold argsOk; kernel_rfl

noncomputable abbrev siO (first : Value) (i : Int) (S : Addr) (n ep : Nat) : Obj := { cls := .type "set_iterator", data := .fields #[first, rawInt i, .ref S, rawInt n, rawInt ep] }
theorem erase_perm {α : Type} : ∀ (l : List α) (i : Nat) (h : i < l.length), List.Perm (l[i] :: l.eraseIdx i) l
  | x :: l, 0, _ => .rfl
  | x :: l, i + 1, h => by
    have := erase_perm l i (by simpa using h)
    exact (List.Perm.swap _ _ _).trans (this.cons x)
/-- does the world walk its sets by a text of its own -/
noncomputable def byText (w : World) : Bool := w.params.followText "set-order"
section
variable {prog : Program} {w : World} {A : Around} {E : Value → Shared → Prop} {s : Shared}
theorem wp_byText {Q : Bool → Shared → Prop} (h : Q (byText w) s) : wpAny (model prog w) A setsByText Q E s := by
  unfold setsByText
  exact wpAny_bind (wpAny_askSetting (wpAny_pure h))
theorem wpAny_choose {src : Source} {n : Nat} {Q : Nat → Shared → Prop} (hn : n ≠ 0) (h : ∀ i d, i < n → Q i { s with drawn := d }) : wpAny (model prog w) A (choose src n) Q E s := by
  intro Γ p hΓ
  unfold choose
  rw [Sem.wp_choose]
  exact ⟨hn, by rw [Sem.wp]; exact h _ _ (Nat.mod_lt _ (by omega))⟩
theorem wp_draw {α : Type} : ∀ (n : Nat) (xs : List α) (s : Shared) {Q : List α → Shared → Prop}, xs.length ≤ n → (∀ ys d, List.Perm ys xs → Q ys { s with drawn := d }) → wpAny (model prog w) A (drawOrder n xs) Q E s
  | 0, xs, s, Q, hn, h => by
    have : xs = [] := List.length_eq_zero_iff.mp (by omega)
    subst this
    unfold drawOrder
    exact wpAny_pure (h [] s.drawn .rfl)
  | n + 1, [], s, Q, _, h => by
    unfold drawOrder
    exact wpAny_pure (h [] s.drawn .rfl)
  | n + 1, x :: xs, s, Q, hn, h => by
    unfold drawOrder
    refine wpAny_bind (wpAny_choose (by simp) fun i d hi => ?_)
    have hx : (x :: xs)[i]? = some (x :: xs)[i] := List.getElem?_eq_getElem hi
    simp only [hx]
    refine wpAny_bind (wp_draw n ((x :: xs).eraseIdx i) { s with drawn := d } (by rw [List.length_eraseIdx_of_lt hi]; simp at hn ⊢; omega) fun ys d' hp => wpAny_pure (h _ _ ?_))
    exact (hp.cons _).trans (erase_perm _ _ hi)

theorem stop_raise {A A' : Around} {s : Shared} {h₁ : Heap} {it : Addr} {P : Fin → Shared → Prop} {Q : Option Value → Shared → Prop} (hh : A.handled = none) (e0 : Heap.ExtBut it h₁ s.heap)
    (hQ : ∀ h', Heap.ExtBut it h₁ h' → Q none { s with heap := h' }) :
    wpAny (model prog w) A (newExc (.type "StopIteration") [] >>= fun e => (raiseNew e : Sem Fin)) P
      (fun e s' => wpAny (model prog w) A' (do if (← isInstance e (.type "StopIteration")) then pure none else throw e) Q E s') s := by
  refine wpAny_bind ?_
  simp only [newExc, newTuple]
  refine wpAny_bind (wpAny_newObj_type ?_ (by size_fits))
  refine wpAny_bind (m := firstArgMember _ _) (wpAny_of_eq (a := Value.none) (by first | rfl | (simp only [firstArgMember]; rfl)) ?_)
  refine wpAny_newObj_type ?_ (by size_fits)
  simp only [raiseNew]
  refine wpAny_bind (wpAny_handled ?_)
  rw [hh]
  refine wpAny_bind (wpAny_pure (wpAny_throw ?_))
  refine wpAny_bind (wpAny_isInstance (T := "StopIteration") (b := true) ⟨_, Heap.get?_push_size _ rfl, rfl⟩ isSubtype_stop ?_)
  exact wpAny_pure (hQ _ ((e0.push _).push _))

/-- the iterator goes by places drawn beforehand -/
theorem si_next_drawn {it S T : Addr} {es : Array (Int × Value)} {ep : Nat} {t : SetTable} {ps : List Nat} {i : Nat} {pl : Nat} {h0 : Int} {x : Value} {Q : Option Value → Shared → Prop}
    (hit : s.heap.get? it = some (siO (.ref T) i S es.size ep)) (hS : s.heap.get? S = some (setO es ep t)) (hf : t.fits es.size = true) (hT : s.heap.get? T = some (tup (ps.map fun (i : Nat) => rawInt i)))
    (hp : ps[i]? = some pl) (hx : es[pl]? = some (h0, x))
    (hQ : Q (some x) { s with heap := s.heap.update it (Obj.mapFields (·.setIfInBounds 1 (rawInt ((i : Int) + 1)))) }) : wpAny (model prog w) A (pyNext (.ref it)) Q E s := by
  have hTy : s.TypeIs (.ref it) "set_iterator" := ⟨_, hit, rfl⟩
  unfold pyNext
  refine wpAny_bind (wpAny_attempt (wpAny_callSpecial?_slot (name := Str.ofString "__next__") hTy slot_si_next
    (wpAny_call_entry slot_si_next hTy entry_si_next ?_ (args_si_next _))))
  unfold Builtin.«set_iterator.__next__»
  refine wpAny_bind (wpAny_of_eq (a := (Value.ref it, [])) rfl ?_)
  try dsimp only
  refine wpAny_bind (wpAny_fieldsOf hit rfl ?_)
  try dsimp only [rawInt]
  refine wpAny_bind (wpAny_setEntries_of hS rfl hf ?_)
  rw [if_neg (by simp)]
  try dsimp only
  refine wpAny_bind (wpAny_seqItems hT rfl ?_)
  dsimp only
  have hq : (ps.map fun (i : Nat) => rawInt i).toArray[((i : Nat) : Int).toNat]? = some (.int (pl : Int) 0) := by
    rw [List.getElem?_toArray, List.getElem?_map, Int.toNat_natCast, hp]; rfl
  rw [hq]
  dsimp only
  unfold setNextDrawn
  refine wpAny_bind (wpAny_bind (wpAny_setState_of hS rfl hf ?_))
  dsimp only
  rw [if_neg (by simp), Int.toNat_natCast, hx]
  dsimp only
  refine wpAny_pure ?_
  refine wpAny_bind (wpAny_setField hit rfl (by simp) ?_)
  exact wpAny_pure ⟨x, rfl, wpAny_pure hQ⟩
theorem si_end_drawn {it S T : Addr} {es : Array (Int × Value)} {ep : Nat} {t : SetTable} {ps : List Nat} {i : Nat} {Q : Option Value → Shared → Prop} (hh : A.handled = none)
    (hit : s.heap.get? it = some (siO (.ref T) i S es.size ep)) (hS : s.heap.get? S = some (setO es ep t)) (hf : t.fits es.size = true) (hT : s.heap.get? T = some (tup (ps.map fun (i : Nat) => rawInt i)))
    (hp : ps[i]? = none) (hQ : ∀ h', Heap.ExtBut it s.heap h' → Q none { s with heap := h' }) : wpAny (model prog w) A (pyNext (.ref it)) Q E s := by
  have hTy : s.TypeIs (.ref it) "set_iterator" := ⟨_, hit, rfl⟩
  unfold pyNext
  refine wpAny_bind (wpAny_attempt (wpAny_callSpecial?_slot (name := Str.ofString "__next__") hTy slot_si_next
    (wpAny_call_entry slot_si_next hTy entry_si_next ?_ (args_si_next _))))
  unfold Builtin.«set_iterator.__next__»
  refine wpAny_bind (wpAny_of_eq (a := (Value.ref it, [])) rfl ?_)
  try dsimp only
  refine wpAny_bind (wpAny_fieldsOf hit rfl ?_)
  try dsimp only [rawInt]
  refine wpAny_bind (wpAny_setEntries_of hS rfl hf ?_)
  rw [if_neg (by simp)]
  try dsimp only
  refine wpAny_bind (wpAny_seqItems hT rfl ?_)
  dsimp only
  have hq : (ps.map fun (i : Nat) => rawInt i).toArray[((i : Nat) : Int).toNat]? = none := by
    rw [List.getElem?_toArray, List.getElem?_map, Int.toNat_natCast, hp]; rfl
  rw [hq]
  dsimp only
  refine wpAny_bind (wpAny_setField hit rfl (by simp) ?_)
  refine wpAny_bind (wpAny_setField (s := { s with heap := s.heap.update it (Obj.mapFields (·.setIfInBounds 0 (rawInt 0))) }) (Heap.get?_update_self (f := Obj.mapFields (·.setIfInBounds 0 (rawInt 0))) hit rfl) rfl (by simp) ?_)
  exact stop_raise (A := A.in1) hh (fun b o hb e => (Heap.get?_update_other _ _ (Ne.symm hb)).trans ((Heap.get?_update_other _ _ (Ne.symm hb)).trans e)) hQ
/-- the iterator goes by the places of the table, or by the world's text -/
theorem si_next_plain {it S : Addr} {es : Array (Int × Value)} {ep : Nat} {t : SetTable} {i sl sl' : Nat} {x : Value} {Q : Option Value → Shared → Prop}
    (hit : s.heap.get? it = some (siO (rawInt (sl : Int)) i S es.size ep)) (hS : s.heap.get? S = some (setO es ep t)) (hf : t.fits es.size = true)
    (hn : ∀ (s : Shared) (E : Value → Shared → Prop) (A : Around) (R : Option (Value × Nat) → Shared → Prop), s.heap.get? S = some (setO es ep t) → R (some (x, sl')) s → wpAny (model prog w) A (setNext S sl i ep) R E s)
    (hQ : ∀ h', Heap.ExtBut it s.heap h' → h'.get? it = some (siO (rawInt (sl' : Int)) ((i : Int) + 1) S es.size ep) → Q (some x) { s with heap := h' }) : wpAny (model prog w) A (pyNext (.ref it)) Q E s := by
  have hTy : s.TypeIs (.ref it) "set_iterator" := ⟨_, hit, rfl⟩
  unfold pyNext
  refine wpAny_bind (wpAny_attempt (wpAny_callSpecial?_slot (name := Str.ofString "__next__") hTy slot_si_next
    (wpAny_call_entry slot_si_next hTy entry_si_next ?_ (args_si_next _))))
  unfold Builtin.«set_iterator.__next__»
  refine wpAny_bind (wpAny_of_eq (a := (Value.ref it, [])) rfl ?_)
  try dsimp only
  refine wpAny_bind (wpAny_fieldsOf hit rfl ?_)
  try dsimp only [rawInt]
  refine wpAny_bind (wpAny_setEntries_of hS rfl hf ?_)
  rw [if_neg (by simp)]
  try dsimp only
  rw [Int.toNat_natCast, Int.toNat_natCast, Int.toNat_natCast]
  refine wpAny_bind (hn _ _ _ _ hS ?_)
  dsimp only
  refine wpAny_bind (wpAny_setField hit rfl (by simp) ?_)
  have g1 := Heap.get?_update_self (f := Obj.mapFields (·.setIfInBounds 0 (rawInt (sl' : Int)))) hit rfl
  refine wpAny_bind (wpAny_setField (s := { s with heap := s.heap.update it (Obj.mapFields (·.setIfInBounds 0 (rawInt (sl' : Int)))) }) g1 rfl (by simp) ?_)
  exact wpAny_pure ⟨x, rfl, wpAny_pure (hQ _ (fun b o hb e => (Heap.get?_update_other _ _ (Ne.symm hb)).trans ((Heap.get?_update_other _ _ (Ne.symm hb)).trans e)) (Heap.get?_update_self (f := Obj.mapFields (·.setIfInBounds 1 (rawInt ((i : Int) + 1)))) g1 rfl))⟩
theorem si_end_plain {it S : Addr} {es : Array (Int × Value)} {ep : Nat} {t : SetTable} {i sl : Nat} {Q : Option Value → Shared → Prop} (hh : A.handled = none)
    (hit : s.heap.get? it = some (siO (rawInt (sl : Int)) i S es.size ep)) (hS : s.heap.get? S = some (setO es ep t)) (hf : t.fits es.size = true)
    (hn : ∀ (s : Shared) (E : Value → Shared → Prop) (A : Around) (R : Option (Value × Nat) → Shared → Prop), s.heap.get? S = some (setO es ep t) → R none s → wpAny (model prog w) A (setNext S sl i ep) R E s)
    (hQ : ∀ h', Heap.ExtBut it s.heap h' → Q none { s with heap := h' }) : wpAny (model prog w) A (pyNext (.ref it)) Q E s := by
  have hTy : s.TypeIs (.ref it) "set_iterator" := ⟨_, hit, rfl⟩
  unfold pyNext
  refine wpAny_bind (wpAny_attempt (wpAny_callSpecial?_slot (name := Str.ofString "__next__") hTy slot_si_next
    (wpAny_call_entry slot_si_next hTy entry_si_next ?_ (args_si_next _))))
  unfold Builtin.«set_iterator.__next__»
  refine wpAny_bind (wpAny_of_eq (a := (Value.ref it, [])) rfl ?_)
  try dsimp only
  refine wpAny_bind (wpAny_fieldsOf hit rfl ?_)
  try dsimp only [rawInt]
  refine wpAny_bind (wpAny_setEntries_of hS rfl hf ?_)
  rw [if_neg (by simp)]
  try dsimp only
  rw [Int.toNat_natCast, Int.toNat_natCast, Int.toNat_natCast]
  refine wpAny_bind (hn _ _ _ _ hS ?_)
  dsimp only
  refine wpAny_bind (wpAny_setField hit rfl (by simp) ?_)
  exact stop_raise (A := A.in1) hh (fun b o hb e => (Heap.get?_update_other _ _ (Ne.symm hb)).trans e) hQ
/-- the world's text: the order at this moment -/
theorem setNext_text {S : Addr} {es : Array (Int × Value)} {ep : Nat} {t : SetTable} {i sl : Nat} {R : Option (Value × Nat) → Shared → Prop} (hb : byText w = true) (hS : s.heap.get? S = some (setO es ep t)) (hf : t.fits es.size = true)
    (h : R (((pickOrder (w.params.setOrder S ep) es)[i]?).map fun e => (e.2, sl)) s) : wpAny (model prog w) A (setNext S sl i ep) R E s := by
  unfold setNext
  refine wpAny_bind (wpAny_setState_of hS rfl hf ?_)
  dsimp only
  refine wpAny_bind (wp_byText ?_)
  rw [if_pos hb, if_neg (by simp)]
  refine wpAny_bind ?_
  unfold setWalk
  refine wpAny_bind (wpAny_setState_of hS rfl hf ?_)
  dsimp only
  refine wpAny_bind (wp_byText ?_)
  rw [if_pos hb]
  exact wpAny_bind (wpAny_askSetting (wpAny_pure (wpAny_pure h)))
/-- no text, one element at most -/
theorem setNext_few {S : Addr} {es : Array (Int × Value)} {ep : Nat} {t : SetTable} {i sl : Nat} {R : Option (Value × Nat) → Shared → Prop} (hb : byText w = false) (hS : s.heap.get? S = some (setO es ep t)) (hf : t.fits es.size = true)
    (hz : es.size ≤ 1) (hl : t.led = true)
    (h : R (match es[SetTable.below t.place sl]?, t.place[SetTable.below t.place sl]? with | some (_, x), some j => some (x, j + 1) | _, _ => none) s) : wpAny (model prog w) A (setNext S sl i ep) R E s := by
  unfold setNext
  refine wpAny_bind (wpAny_setState_of hS rfl hf ?_)
  dsimp only
  refine wpAny_bind (wp_byText ?_)
  rw [if_neg (by rw [hb]; simp)]
  show wpAny _ _ (if (!t.plain && decide (es.size > 1)) = true then _ else _) _ _ _
  rw [if_neg (by simp only [Bool.and_eq_true, decide_eq_true_eq, not_and]; omega)]
  show wpAny _ _ ((if (!t.led && !es.isEmpty) = true then unsupported _ else pure ()) >>= _) _ _ _
  rw [if_neg (by simp [hl])]
  exact wpAny_bind (wpAny_pure (wpAny_pure h))
theorem below_one (j : Nat) : SetTable.below #[j] 0 = 0 ∧ SetTable.below #[j] (j + 1) = 1 := by
  constructor
  · unfold SetTable.below SetTable.below.go
    simp [SetTable.below.go]
  · unfold SetTable.below SetTable.below.go
    simp [SetTable.below.go]
theorem pick_go {α : Type} (next : Nat → Nat) : ∀ (n k : Nat) (l : List α) (out : Array α), l.length ≤ n → List.Perm (pickOrder.go next n k l out).toList (out.toList ++ l)
  | 0, k, l, out, h => by
    obtain rfl : l = [] := List.length_eq_zero_iff.mp (by omega)
    unfold pickOrder.go; simp
  | n + 1, k, [], out, h => by unfold pickOrder.go; simp
  | n + 1, k, x :: l, out, h => by
    unfold pickOrder.go
    have hi : next k % (x :: l).length < (x :: l).length := Nat.mod_lt _ (by simp)
    rw [List.getElem?_eq_getElem hi]
    dsimp only
    refine (pick_go next n (k + 1) _ _ (by rw [List.length_eraseIdx_of_lt hi]; simp at h ⊢; omega)).trans ?_
    rw [Array.toList_push, List.append_assoc]
    exact (erase_perm _ _ hi).append_left _
theorem pick_perm {α : Type} (next : Nat → Nat) (xs : Array α) : List.Perm (pickOrder next xs).toList xs.toList := by
  unfold pickOrder
  have := pick_go next xs.size 0 xs.toList #[] (by simp)
  simpa using this
end
end Mine
end

section
open PySem PySem.W PyProof.Rows PySem.Calls PySem.Spec
set_option maxRecDepth 100000
namespace Mine
section
variable {prog : Program} {w : World} {A : Around} {E : Value → Shared → Prop} {s : Shared}
noncomputable abbrev ordOf (ps : List Nat) (es : Array (Int × Value)) : List Value := ps.map fun p => (es.toList.getD p (0, .none)).2
theorem ord_perm {ps : List Nat} {es : Array (Int × Value)} (hp : List.Perm ps (List.range es.size)) : List.Perm (ordOf ps es) (es.toList.map (·.2)) := by
  refine (hp.map _).trans (List.Perm.of_eq ?_)
  refine List.ext_getElem (by simp) fun i h1 h2 => ?_
  simp only [List.getElem_map, List.getElem_range]
  rw [← List.getElem_eq_getD (h := by simpa using h2)]
theorem moved_at {it : Addr} {s : Shared} {h' : Heap} (e : Heap.ExtBut it s.heap h') : Moved [it] Eq s { s with heap := h' } :=
  ⟨fun b o hb q => e b o (by simpa using hb) q, rfl, rfl, rfl, Nat.le_refl _⟩
theorem si_self {it S : Addr} {first : Value} {i : Int} {n ep : Nat} {Q : Value → Shared → Prop} (hit : s.heap.get? it = some (siO first i S n ep)) (h : Q (.ref it) s) : wpAny (model prog w) A (pyIter (.ref it)) Q E s := by
  have hT : s.TypeIs (.ref it) "set_iterator" := ⟨_, hit, rfl⟩
  refine wpAny_pyIter_slot hT slot_si_iter (wpAny_call_entry slot_si_iter hT entry_si_iter ?_ (args_si_iter _))
  show wpAny _ _ (ret (.ref it)) _ _ s
  exact wpAny_pure ⟨_, rfl, "set_iterator", _, hT, slot_si_next.lookup, h⟩
theorem walks_drawn {it S T : Addr} {es : Array (Int × Value)} {ep : Nat} {t : SetTable} {ps : List Nat} (hh : A.handled = none) (h1 : S ≠ it) (h2 : T ≠ it) (hf : t.fits es.size = true) (hp : List.Perm ps (List.range es.size)) :
    WalksS prog w A it [it, S, T] [it] Eq (ordOf ps es).length (fun i v => (ordOf ps es)[i]? = some v)
      (fun i s => s.heap.get? it = some (siO (.ref T) (i : Int) S es.size ep) ∧ s.heap.get? S = some (setO es ep t) ∧ s.heap.get? T = some (tup (ps.map fun (i : Nat) => rawInt i))) where
  sub := fun b hb => by simp at hb; simp [hb]
  grefl := fun _ => rfl
  gtrans := fun _ _ _ a b => a.trans b
  frame := fun i s h' tk st _ hk => ⟨hk it (by simp) _ st.1, hk S (by simp) _ st.2.1, hk T (by simp) _ st.2.2⟩
  item := fun i s Q E hi st hQ => by
    have hi' : i < ps.length := by simpa [ordOf] using hi
    have hm : ps[i] < es.size := List.mem_range.mp (hp.mem_iff.mp (List.getElem_mem hi'))
    have hx : es[ps[i]]? = some ((es.toList.getD ps[i] (0, .none)).1, (es.toList.getD ps[i] (0, .none)).2) := by
      rw [Array.getElem?_eq_getElem hm, ← List.getElem_eq_getD (h := by simpa using hm)]; simp
    refine si_next_drawn st.1 st.2.1 hf st.2.2 (List.getElem?_eq_getElem hi') hx ?_
    have oth : Heap.ExtBut it s.heap (s.heap.update it (Obj.mapFields (·.setIfInBounds 1 (rawInt ((i : Int) + 1))))) := fun b o hb e => (Heap.get?_update_other _ _ (Ne.symm hb)).trans e
    exact hQ _ _ (by rw [List.getElem?_map, List.getElem?_eq_getElem hi']; rfl) ⟨Heap.get?_update_self (f := Obj.mapFields (·.setIfInBounds 1 (rawInt ((i : Int) + 1)))) st.1 rfl, oth _ _ h1 st.2.1, oth _ _ h2 st.2.2⟩ (moved_at oth)
  done := fun s Q E st hQ => by
    refine si_end_drawn hh st.1 st.2.1 hf st.2.2 (List.getElem?_eq_none (by simp [ordOf])) fun h' e => hQ _ (moved_at e)
  self := fun i s Q E st hQ => si_self st.1 hQ
theorem walks_text {it S : Addr} {es : Array (Int × Value)} {ep : Nat} {t : SetTable} (hh : A.handled = none) (h1 : S ≠ it) (hf : t.fits es.size = true) (hb : byText w = true) {xs : List Value}
    (hx : xs = (pickOrder (w.params.setOrder S ep) es).toList.map (·.2)) :
    WalksS prog w A it [it, S] [it] Eq xs.length (fun i v => xs[i]? = some v)
      (fun i s => s.heap.get? it = some (siO (rawInt ((0 : Nat) : Int)) (i : Int) S es.size ep) ∧ s.heap.get? S = some (setO es ep t)) where
  sub := fun b hb => by simp at hb; simp [hb]
  grefl := fun _ => rfl
  gtrans := fun _ _ _ a b => a.trans b
  frame := fun i s h' tk st _ hk => ⟨hk it (by simp) _ st.1, hk S (by simp) _ st.2⟩
  item := fun i s Q E hi st hQ => by
    subst hx
    have hi' : i < (pickOrder (w.params.setOrder S ep) es).size := by simpa using hi
    refine si_next_plain (sl := 0) (sl' := 0) (x := (pickOrder (w.params.setOrder S ep) es)[i].2) st.1 st.2 hf (fun s E A R hS hR => setNext_text hb hS hf ?_) fun h' e g => ?_
    · rw [Array.getElem?_eq_getElem hi']; exact hR
    · exact hQ _ _ (by rw [List.getElem?_map, Array.getElem?_toList, Array.getElem?_eq_getElem hi']; rfl) ⟨g, e _ _ h1 st.2⟩ (moved_at e)
  done := fun s Q E st hQ => by
    subst hx
    refine si_end_plain (sl := 0) hh st.1 st.2 hf (fun s E A R hS hR => setNext_text hb hS hf ?_) fun h' e => hQ _ (moved_at e)
    rw [Array.getElem?_eq_none (by simp)]; exact hR
  self := fun i s Q E st hQ => si_self st.1 hQ
theorem one_of {α : Type} : ∀ (a : Array α), a.size = 1 → ∃ j, a = #[j]
  | ⟨[]⟩, h => by simp at h
  | ⟨[e]⟩, _ => ⟨e, rfl⟩
  | ⟨_ :: _ :: _⟩, h => by simp at h
theorem fits_one {t : SetTable} (hf : t.fits 1 = true) : ∃ j, t.place = #[j] := by
  simp only [SetTable.fits, Bool.and_eq_true, beq_iff_eq] at hf
  exact one_of _ hf.1
noncomputable abbrev slotAt (t : SetTable) : Nat → Nat
  | 0 => 0
  | _ + 1 => t.place.getD 0 0 + 1
theorem walks_few {it S : Addr} {es : Array (Int × Value)} {ep : Nat} {t : SetTable} (hh : A.handled = none) (h1 : S ≠ it) (hf : t.fits es.size = true) (hb : byText w = false) (hz : es.size ≤ 1) (hl : t.led = true) {xs : List Value}
    (hx : xs = es.toList.map (·.2)) :
    WalksS prog w A it [it, S] [it] Eq xs.length (fun i v => xs[i]? = some v)
      (fun i s => s.heap.get? it = some (siO (rawInt ((slotAt t i : Nat) : Int)) (i : Int) S es.size ep) ∧ s.heap.get? S = some (setO es ep t)) where
  sub := fun b hb => by simp at hb; simp [hb]
  grefl := fun _ => rfl
  gtrans := fun _ _ _ a b => a.trans b
  frame := fun i s h' tk st _ hk => ⟨hk it (by simp) _ st.1, hk S (by simp) _ st.2⟩
  item := fun i s Q E hi st hQ => by
    subst hx
    obtain ⟨e, rfl⟩ : ∃ e, es = #[e] := by
      obtain ⟨l⟩ := es
      match l with
      | [] => simp at hi
      | [e] => exact ⟨e, rfl⟩
      | _ :: _ :: _ => simp at hz
    obtain ⟨pl, hpl⟩ := fits_one hf
    obtain rfl : i = 0 := by simp at hi; exact hi
    refine si_next_plain (sl := 0) (sl' := pl + 1) (x := e.2) st.1 st.2 hf (fun s E A R hS hR => setNext_few hb hS hf hz hl ?_) fun h' q g => ?_
    · rw [hpl, (below_one pl).1]; exact hR
    · exact hQ _ _ rfl ⟨by show _ = some (siO (rawInt ((t.place.getD 0 0 + 1 : Nat) : Int)) _ S _ ep); rw [hpl]; exact g, q _ _ h1 st.2⟩ (moved_at q)
  done := fun s Q E st hQ => by
    subst hx
    refine si_end_plain hh st.1 st.2 hf (fun s E A R hS hR => setNext_few hb hS hf hz hl ?_) fun h' e => hQ _ (moved_at e)
    obtain ⟨l⟩ := es
    match l, hz with
    | [], _ => exact hR
    | [e], _ =>
      obtain ⟨pl, hpl⟩ := fits_one hf
      show R (match #[e][SetTable.below t.place (t.place.getD 0 0 + 1)]?, t.place[SetTable.below t.place (t.place.getD 0 0 + 1)]? with | some (_, x), some j => some (x, j + 1) | _, _ => none) s
      rw [hpl, show (#[pl] : Array Nat).getD 0 0 = pl from rfl, (below_one pl).2]; exact hR
    | _ :: _ :: _, h => simp at h
  self := fun i s Q E st hQ => si_self st.1 hQ
end
end Mine
end

section
open PySem PySem.W PyProof.Rows PySem.Calls PySem.Spec
set_option maxRecDepth 100000
namespace Mine
section
variable {prog : Program} {w : World} {A : Around} {E : Value → Shared → Prop} {s : Shared}
set_option maxHeartbeats 2000000 in
theorem set_iter {S : Addr} {es : Array (Int × Value)} {ep : Nat} {t : SetTable} {Q : Value → Shared → Prop} (hS : s.heap.get? S = some (setO es ep t)) (hf : t.fits es.size = true)
    (hl : byText w = false → t.led = true) (hp : es.size ≤ 1 ∨ t.plain = false) (hz : es.size ≤ 1000)
    (h : ∀ it h' d xs fp (St : Nat → Shared → Prop), List.Perm xs (es.toList.map (·.2)) → (∀ A' : Around, A'.handled = none → WalksS prog w A' it fp [it] Eq xs.length (fun i v => xs[i]? = some v) St) →
      St 0 { s with heap := h', drawn := d } → (∀ b ∈ fp, b = S ∨ s.heap.objs.size ≤ b) → s.heap.objs.size ≤ it → (∀ b o, s.heap.get? b = some o → h'.get? b = some o) → Q (.ref it) { s with heap := h', drawn := d }) :
    wpAny (model prog w) A (pyIter (.ref S)) Q E s := by
  have hT : s.TypeIs (.ref S) "set" := ⟨_, hS, rfl⟩
  have hlt : S < s.heap.objs.size := Heap.lt_size hS
  refine wpAny_pyIter_slot hT PySem.F.slot_set_iter (wpAny_call_entry PySem.F.slot_set_iter hT entry_set_iter ?_ (args_set_iter _))
  unfold Builtin.«frozenset.__iter__»
  refine wpAny_bind (wpAny_of_eq (a := S) (by first | rfl | kernel_rfl) ?_)
  unfold Builtin.Frozenset.sizeOf
  refine wpAny_bind (wpAny_bind (wpAny_setEntries_of hS rfl hf (wpAny_pure ?_)))
  refine wpAny_bind ?_
  unfold setDrawn
  refine wpAny_bind (wpAny_setState_of hS rfl hf ?_)
  dsimp only
  refine wpAny_bind (wp_byText ?_)
  show wpAny _ _ (pure (!byText w && (!t.plain && decide (es.size > 1)))) _ _ _
  refine wpAny_pure ?_
  split
  · rename_i hc
    refine wpAny_bind ?_
    simp only [Bool.and_eq_true, Bool.not_eq_true', decide_eq_true_eq] at hc
    refine wp_draw _ _ _ (Nat.le_of_eq List.length_range) fun ps d hperm => ?_
    refine wpAny_bind (wpAny_newTuple ?_ (by first | (rw [List.length_map, hperm.length_eq, List.length_range, sizeLine_eq]; omega) | (simp only [List.length_map, hperm.length_eq, List.length_range, sizeLine_eq, List.size_toArray]; omega)))
    refine wpAny_bind (wpAny_setEpoch_of (s := { s with heap := _, drawn := d }) (Heap.get?_push_of_some _ hS) rfl hf ?_)
    refine wpAny_bind (wpAny_newObj_type ?_ (by size_fits))
    have hsz : (s.heap.push { cls := .type "tuple", data := .seq (ps.map fun (i : Nat) => rawInt i).toArray }).objs.size = s.heap.objs.size + 1 := Heap.size_push _ _
    have hT2 : ({ s with heap := (s.heap.push { cls := .type "tuple", data := .seq (ps.map fun (i : Nat) => rawInt i).toArray }).push (siO (.ref s.heap.objs.size) ((0 : Nat) : Int) S es.size ep), drawn := d } : Shared).TypeIs (.ref (s.heap.objs.size + 1)) "set_iterator" :=
      ⟨_, by rw [← hsz]; exact Heap.get?_push_size _ rfl, rfl⟩
    rw [hsz]
    refine wpAny_pure ⟨_, rfl, "set_iterator", _, hT2, slot_si_next.lookup, ?_⟩
    refine h _ _ d _ [s.heap.objs.size + 1, S, s.heap.objs.size] _ (ord_perm hperm) (fun A' hh => walks_drawn (ep := ep) (t := t) hh (Nat.ne_of_lt (Nat.lt_succ_of_lt hlt)) (Nat.ne_of_lt (Nat.lt_succ_self _)) hf hperm) ⟨?_, ?_, ?_⟩ ?_ (Nat.le_succ _) ?_
    · rw [← hsz]; exact Heap.get?_push_size _ rfl
    · exact Heap.get?_push_of_some _ (Heap.get?_push_of_some _ hS)
    · exact Heap.get?_push_of_some _ (Heap.get?_push_size _ rfl)
    · intro b q; simp only [List.mem_cons, List.not_mem_nil, or_false] at q; rcases q with rfl | rfl | rfl <;> first | exact .inl rfl | exact .inr (Nat.le_refl _) | exact .inr (Nat.le_succ _)
    · intro b o e; exact Heap.get?_push_of_some _ (Heap.get?_push_of_some _ e)
  · rename_i hc
    refine wpAny_bind (wpAny_pure ?_)
    refine wpAny_bind (wpAny_setEpoch_of hS rfl hf ?_)
    refine wpAny_bind (wpAny_newObj_type ?_ (by size_fits))
    have hT2 : ({ s with heap := s.heap.push (siO (rawInt ((0 : Nat) : Int)) ((0 : Nat) : Int) S es.size ep) } : Shared).TypeIs (.ref s.heap.objs.size) "set_iterator" := ⟨_, Heap.get?_push_size _ rfl, rfl⟩
    refine wpAny_pure ⟨_, rfl, "set_iterator", _, hT2, slot_si_next.lookup, ?_⟩
    cases hb : byText w with
    | true =>
      refine h _ _ s.drawn ((pickOrder (w.params.setOrder S ep) es).toList.map (·.2)) [s.heap.objs.size, S] _ ((pick_perm _ _).map _) (fun A' hh => walks_text (ep := ep) (t := t) hh (Nat.ne_of_lt hlt) hf hb rfl) ⟨?_, ?_⟩ ?_ (Nat.le_refl _) ?_
      · exact Heap.get?_push_size _ rfl
      · exact Heap.get?_push_of_some _ hS
      · intro b q; simp only [List.mem_cons, List.not_mem_nil, or_false] at q; rcases q with rfl | rfl <;> first | exact .inl rfl | exact .inr (Nat.le_refl _)
      · intro b o e; exact Heap.get?_push_of_some _ e
    | false =>
      have hz1 : es.size ≤ 1 := by
        rcases hp with hp | hp
        · exact hp
        · rw [hb, hp] at hc
          simp only [Bool.not_false, Bool.true_and, decide_eq_true_eq] at hc
          omega
      refine h _ _ s.drawn (es.toList.map (·.2)) [s.heap.objs.size, S] _ .rfl (fun A' hh => walks_few (ep := ep) (t := t) hh (Nat.ne_of_lt hlt) hf hb hz1 (hl hb) rfl) ⟨?_, ?_⟩ ?_ (Nat.le_refl _) ?_
      · exact Heap.get?_push_size _ rfl
      · exact Heap.get?_push_of_some _ hS
      · intro b q; simp only [List.mem_cons, List.not_mem_nil, or_false] at q; rcases q with rfl | rfl <;> first | exact .inl rfl | exact .inr (Nat.le_refl _)
      · intro b o e; exact Heap.get?_push_of_some _ e

theorem items_eq {xs : List Value} {acc : Array Value} (h : ItemsOf (fun i v => xs[i]? = some v) acc xs.length) : acc.toList = xs := by
  refine List.ext_getElem? fun i => ?_
  rcases Nat.lt_or_ge i xs.length with q | q
  · have hi : i < acc.size := by rw [h.1]; exact q
    rw [Array.getElem?_toList, Array.getElem?_eq_getElem hi]
    exact (h.2 i _ (Array.getElem?_eq_getElem hi)).symm
  · rw [List.getElem?_eq_none q, List.getElem?_eq_none (by rw [Array.length_toList, h.1]; exact q)]
set_option maxHeartbeats 2000000 in
theorem collect_set {S : Addr} {es : Array (Int × Value)} {ep : Nat} {t : SetTable} {Q : List Value → Shared → Prop} (hh : A.handled = none) (hS : s.heap.get? S = some (setO es ep t)) (hf : t.fits es.size = true)
    (hl : byText w = false → t.led = true) (hp : es.size ≤ 1 ∨ t.plain = false) (hz : es.size ≤ 1000)
    (h : ∀ xs h' d tk, List.Perm xs (es.toList.map (·.2)) → (∀ b o, s.heap.get? b = some o → h'.get? b = some o) → s.heap.objs.size ≤ h'.objs.size → Q xs { s with heap := h', drawn := d, toks := tk }) :
    wpAny (model prog w) A (collect (.ref S)) Q E s := by
  have hT : s.TypeIs (.ref S) "set" := ⟨_, hS, rfl⟩
  have hlt : S < s.heap.objs.size := Heap.lt_size hS
  unfold collect
  refine wpAny_bind (wpAny_runValue (codeAny_builtin PySem.F.entry_proto_collect ?_))
  rw [Around.under_plainId PySem.F.plain_proto_collect _]
  show wpAny _ A.in1 (newList [] >>= fun l => again (.builtin "list.__iadd__" ⟨[l, .ref S], []⟩)) _ _ s
  refine wpAny_bind (wpAny_newObj_type ?_)
  refine wpAny_pure ⟨plainId_quiet PySem.F.plain_list_iadd _, codeAny_builtin PySem.F.entry_list_iadd ?_⟩
  rw [Around.under_plainId PySem.F.plain_list_iadd _]
  show wpAny _ A.in1 (Builtin.List.listExtendWith (.ref s.heap.objs.size) (.ref S) (.ref s.heap.objs.size)) _ _ _
  unfold Builtin.List.listExtendWith
  have hS1 : (s.heap.push { cls := .type "list", data := .seq ([] : List Value).toArray }).get? S = some (setO es ep t) := Heap.get?_push_of_some _ hS
  have hT1 : ({ s with heap := s.heap.push { cls := .type "list", data := .seq ([] : List Value).toArray } } : Shared).TypeIs (.ref S) "set" := ⟨_, hS1, rfl⟩
  refine wpAny_bind (wpAny_typeOf hT1 ?_)
  have h1 : Builtin.List.listSameRef (.ref s.heap.objs.size) (.ref S) = false := by unfold Builtin.List.listSameRef; exact beq_eq_false_iff_ne.mpr (Nat.ne_of_gt hlt)
  have h2 : (Value.type "set" == Value.type "list") = false := by decide
  have h3 : (Value.type "set" == Value.type "tuple") = false := by decide
  simp only [h1, h2, h3, Bool.or_false, Bool.false_eq_true, if_false]
  have hL1 : (s.heap.push { cls := .type "list", data := .seq ([] : List Value).toArray }).get? s.heap.objs.size = some { cls := .type "list", data := .seq ([] : List Value).toArray } := Heap.get?_push_size _ rfl
  refine wpAny_bind (set_iter hS1 hf hl hp hz fun it h' d xs fp St hxs W st0 hfp hit hk => ?_)
  have hS2 := hk _ _ hS1
  have hL2 := hk _ _ hL1
  have hT2 : ({ s with heap := h', drawn := d } : Shared).TypeIs (.ref S) "set" := ⟨_, hS2, rfl⟩
  refine wpAny_bind (wpAny_holding ?_)
  unfold Builtin.List.listLengthHint
  refine wpAny_bind (wpAny_specialOf (s := { s with heap := h', drawn := d }) hT2 PySem.F.slot_set_len.lookup ?_)
  (generalize hid : ("set.__len__" : String) = id0; (fail_if_success (clear hid id0)); wp_delta; rw [show splitId id0 = some ("set", "__len__") from by subst hid; decide +kernel]; subst hid)
  refine wpAny_bind (wpAny_isInstance (b := true) hT2 sub_set_self ?_)
  try dsimp only
  rw [if_neg (by decide), if_pos (by decide +kernel)]
  refine wpAny_bind (wpAny_typeOf hT2 ?_)
  refine wpAny_pure ?_
  rw [if_pos (by decide +kernel)]
  refine wpAny_bind (wpAny_rule ?_)
  refine wpAny_bind ?_
  have hSf : s.heap.objs.size ∉ fp := fun q => by
    rcases hfp _ q with e | e
    · exact Nat.ne_of_gt hlt e
    · exact absurd (Nat.lt_of_lt_of_le (by show s.heap.objs.size < (s.heap.push _).objs.size; rw [Heap.size_push]; exact Nat.lt_succ_self _) e) (Nat.lt_irrefl _)
  show wpAny _ A.in1 (updateSeq s.heap.objs.size (·.push .none) >>= fun _ => updateSeq s.heap.objs.size (·.pop)) _ _ _
  refine wpAny_bind (wpAny_updateSeq (s := { s with heap := h', drawn := d }) hL2 rfl ?_)
  have hL3 := Heap.get?_update_self (Obj.mapSeq (·.push Value.none)) hL2 rfl
  refine wpAny_updateSeq (s := { s with heap := _, drawn := d }) hL3 rfl ?_
  have hL4 := Heap.get?_update_self (Obj.mapSeq (·.pop)) hL3 rfl
  have oth : ∀ b o, b ≠ s.heap.objs.size → h'.get? b = some o → ((h'.update s.heap.objs.size (Obj.mapSeq (·.push Value.none))).update s.heap.objs.size (Obj.mapSeq (·.pop))).get? b = some o :=
    fun b o hb e => (Heap.get?_update_other _ _ (Ne.symm hb)).trans ((Heap.get?_update_other _ _ (Ne.symm hb)).trans e)
  have hn : xs.length ≤ sizeLine := by rw [hxs.length_eq, List.length_map, Array.length_toList, sizeLine_eq]; omega
  refine wpAny_pure ⟨plainId_quiet PySem.F.plain_extend_loop _, codeAny_extend_loopS (W A.in1 hh) hn _ hSf _ xs.length 0 _ _ _ rfl (Nat.zero_le _)
    ((W A.in1 hh).frame 0 { s with heap := h', drawn := d } _ s.toks st0 (Nat.le_refl _) fun b hb o e => oth b o (fun q => hSf (q ▸ hb)) e) hL4 (ItemsOf.nil _) fun s' acc' c' hm hS' hacc => ?_⟩
  show wpAny _ A (load s.heap.objs.size >>= _) _ _ s'
  refine wpAny_bind (wpAny_load hS' ?_)
  refine wpAny_pure ?_
  rw [items_eq hacc]
  obtain ⟨hh2, g2, d2, tk2, os2⟩ := s'
  obtain ⟨k1, k2, k3, k4, k5⟩ := hm
  dsimp only at k1 k2 k3 k4 hS'
  subst k2; subst k3; subst k4
  refine h xs hh2 _ _ hxs (fun b o e => ?_) (Nat.le_of_lt (Heap.lt_size hS'))
  have hb : b < s.heap.objs.size := Heap.lt_size e
  have hb2 : b ≠ s.heap.objs.size := Nat.ne_of_lt hb
  have hb3 : b ≠ it := Nat.ne_of_lt (Nat.lt_of_lt_of_le hb (Nat.le_trans (by show s.heap.objs.size ≤ (s.heap.push _).objs.size; rw [Heap.size_push]; exact Nat.le_succ _) hit))
  exact k1 b o (by simp [hb2, hb3]) (oth b o hb2 (hk _ _ (Heap.get?_push_of_some _ e)))
variable {h₀ : Heap} {L : Addr} {m : Str → Option Value} {news : Led}
/-- sorted(S) of a set of strs: a new list -/
theorem sorted_set {S : Addr} {es : Array (Int × Value)} {ep : Nat} {t : SetTable} {ss : List Str} {Q : Value → Shared → Prop} (hh : A.handled = none) (F : Fr h₀ L s.heap m) (N : News h₀ L s.heap news)
    (hS : (S, setO es ep t) ∈ news) (hf : t.fits es.size = true) (hl : byText w = false → t.led = true) (hp : es.size ≤ 1 ∨ t.plain = false) (hz : es.size < 64) (hs : StrsAre (es.toList.map (·.2)) ss)
    (h : ∀ D h' d tk vs' ss' e, Fr h₀ L h' m → News h₀ L h' ((D, seqObj "list" vs'.toArray e) :: news) → StrsAre vs' ss' → ss'.Perm ss → sortedS ss' = true → Q (.ref D) { s with heap := h', drawn := d, toks := tk }) :
    wpAny (model prog w) A (call (.builtin "sorted") [.ref S]) Q E s := by
  refine Calls.call_function_entry kind_sorted plain_sorted entry_sorted (args_sorted1 _) ?_
  unfold Builtin.«sorted»
  refine wpAny_bind (m := checkCount "sorted" 1 1 _) (wpAny_pure ?_)
  refine wpAny_bind (collect_set (A := A.in1) hh (N _ hS).1 hf hl hp (by omega) fun xs h' d tk hxs hk hsz => ?_)
  have hxs' : ∃ ss2, StrsAre xs ss2 ∧ ss2.Perm ss := by
    have hall : ∀ v, v ∈ xs → ∃ x t, v = .str x t := fun v hv => hs.all v (hxs.mem_iff.mp hv)
    refine ⟨_, strsAre_map xs hall, ?_⟩
    have := hxs.map strOf
    rwa [hs.strs] at this
  obtain ⟨ss2, hs2, hp2⟩ := hxs'
  have hlen : xs.length < 64 := by rw [hxs.length_eq, List.length_map, Array.length_toList]; exact hz
  refine wpAny_bind (wpAny_newList ?_)
  have hoL : (h'.push (seqObj "list" xs.toArray 0)).get? h'.objs.size = some (seqObj "list" xs.toArray 0) := Heap.get?_push_size _ rfl
  refine wpAny_bind (wpAny_holding (wpAny_call_entry (s := { s with heap := h'.push (seqObj "list" xs.toArray 0), drawn := d, toks := tk }) slot_list_sort ⟨_, hoL, rfl⟩ entry_list_sort
    (list_sort_treeK strKind_oneLt hoL hs2.keysOf (fun v₁ v₂ rest e => keyKind_strs (by rw [← e]; exact hs2)) hlen fun st' a1 a2 => ⟨_, rfl, ?_⟩) (args_list_sort _)))
  obtain ⟨ss', b1, b2, b3⟩ := sorted_out_str hs2 a1 a2
  obtain ⟨e, he⟩ := sortedHeap_at (vs := xs) (out := (arrOf st').map (·.2)) hoL
  have old : ∀ b o, s.heap.get? b = some o → (sortedHeap (h'.push (seqObj "list" xs.toArray 0)) h'.objs.size xs ((arrOf st').map (·.2))).get? b = some o := fun b o q => by
    have hb : b < h'.objs.size := Nat.lt_of_lt_of_le (Heap.lt_size q) hsz
    rw [sortedHeap_old (Nat.ne_of_lt hb) (by rw [size_push']; exact Nat.lt_succ_of_lt hb)]
    exact Heap.get?_push_of_some _ (hk _ _ q)
  exact wpAny_pure ⟨_, rfl, h _ _ _ _ ((arrOf st').map (·.2)).toList ss' e (F.kept old) (N.kept_cons F old hsz he) b1 (b2.trans hp2) b3⟩
end
end Mine
end

section
open PySem PySem.W PyProof.Rows PySem.Calls PySem.Spec Builtin Builtin.ObjectAttr
set_option maxRecDepth 100000
namespace Mine
/-- the bases of DesignError behind itself -/
noncomputable abbrev bmD : List Value := [.ref 32, .type "Exception", .type "BaseException", .type "object"]
theorem clsD (p : Params) : ∃ nm q N bs sn sub ab col dd k0 k1 k2 k3 k5, (hd.heap_1_39 p).lookup 45 = some (excClassObj nm q 45 N bs bmD true sn sub ab col dd k0 k1 k2 k3 k5 "Exception.__new__") :=
  ⟨_, _, _, _, _, _, _, _, _, _, _, _, _, _, by with_unfolding_all rfl⟩
theorem clsInD (p : Params) : ∃ cd, clsIn (hd.heap_1_39 p) 45 = some cd ∧ cd.mro = .ref 45 :: bmD ∧ cd.hasDict = true := by
  obtain ⟨nm, q, N, bs, sn, sub, ab, col, dd, k0, k1, k2, k3, k5, e⟩ := clsD p
  exact ⟨_, by unfold clsIn; rw [e], rfl, rfl⟩
theorem setaD (p : Params) : findIn (hd.heap_1_39 p) (.ref 45) "__setattr__" = some (some (.builtin "object.__setattr__")) := by kernel_rfl
theorem getaD (p : Params) : findIn (hd.heap_1_39 p) (.ref 45) "__getattribute__" = some (some (.builtin "BaseException.__getattribute__")) := by kernel_rfl
theorem gethD (p : Params) : findIn (hd.heap_1_39 p) (.ref 45) "__getattr__" = some none := by kernel_rfl
theorem initD (p : Params) : findIn (hd.heap_1_39 p) (.ref 45) "__init__" = some (some (.ref 29)) := by kernel_rfl
section
variable {prog : Program} {w : World} {A : Around} {E : Value → Shared → Prop} {s : Shared} {h₀ : Heap} {L : Addr} {m : Str → Option Value} {news : Led}
theorem refuseD (self : Value) : refuseLoop self "__setattr__" (.ref 45 :: bmD) = pure () := by
  rw [refuseLoop_ref, refuseLoop_ref]
  exact PySem.F.store_Exception.passes self
theorem osaD {x : Addr} {ox : Obj} {od : Option Obj} {name : Str} {tk : Tok} {v : Value} {R : Result → Shared → Prop} (X : (hd.heap_1_39 w.params).In s.heap) (I : W.InstAt s.heap x ox 45 od) (ha : findIn (hd.heap_1_39 w.params) (.ref 45) name = some none)
    (h : ∀ b, wpAny (model prog w) A.in1 (storeInOwnDict (.ref x) (.ref 45) (.str name tk) name v b)
      (fun fin s' => match fin with | .done f => R (.ok f) s' | .again c' => c'.quiet = true ∧ codeAny (model prog w) A c' R s') (fun e s' => R (.error e) s') s) :
    codeAny (model prog w) A (.call (.builtin "object.__setattr__") ⟨[.ref x, .str name tk, v], []⟩) R s := by
  have SF := PySem.F.store_object
  obtain ⟨cd, hc, hm, hdd⟩ := clsInD w.params
  have sub : Looks (model prog w) s.heap (isInstance (.ref x) (.type "object")) true := I.type.andThen (looks_mroIn X (by unfold mroIn; rw [hc, Option.bind_some, hm]; rfl))
  refine codeAny_call_builtin SF.slot.plain SF.entry (@check_slot (model prog w) _ _ s "object.__setattr__" "object" "__setattr__" (.ref x) [.str name tk, v] [] _ SF.kind SF.split sub (SF.args (.ref x) (.str name tk) v) ?_)
  have hmro : Looks (model prog w) s.heap (mroOf (.ref 45)) (.ref 45 :: bmD) := hm ▸ (looks_clsIn X hc).andThen .now
  rw [osa_eq, refuse_eq]
  refine wpAny_bind (wpAny_bind (I.type.here (wpAny_bind (hmro.here ?_))))
  rw [refuseD]
  refine wpAny_pure (wpAny_bind (I.type.here (wpAny_bind ((looks_findIn X ha).here (wpAny_bind ((Looks.now : Looks (model prog w) s.heap (storeTaker? none) none).here ?_))))))
  exact h _
/-- a store into the dict of the ledger's head -/
theorem storeD {dx : Addr} {es es' : List DictEntry} {n n' : Nat} {name : Str} {tk : Tok} {v : Value} {post : Led} {Q : Fin → Shared → Prop} (F : Fr h₀ L s.heap m) (N : News h₀ L s.heap ((dx, dictOf es n) :: post)) (h2 : ∀ p ∈ post, p.1 ≠ dx)
    (hl : (getL name es).isSome = true) (e : (putL name (PyData.keyHash w.params name) (.str name s.toks) v es, putN name es n) = (es', n')) (hz : es'.length ≤ 1000)
    (h : ∀ h', Fr h₀ L h' m → News h₀ L h' ((dx, dictOf es' n') :: post) → Q (.done (.ret .none)) { s with heap := h', toks := s.toks + 1 }) :
    wpAny (model prog w) A (storeInDict dx (.str name tk) name v) Q E s := by
  obtain ⟨e1, e2⟩ := Prod.mk.inj e
  obtain ⟨U1, U2⟩ := news_upd (pre := []) (o' := dictOf es' n') (f := Obj.putName name (PyData.keyHash w.params name) (.str name s.toks) v) F N (fun _ q => nomatch q) h2 (by rw [putName_dict, e1, e2]) rfl
  have D : s.heap.get? dx = some (dictOf es n) := (N (dx, _) (.head _)).1
  have D' : (s.heap.update dx (Obj.putName name (PyData.keyHash w.params name) (.str name s.toks) v)).get? dx = some (dictOf es' n') := (U2 (dx, _) (.head _)).1
  unfold storeInDict newKeyGuard
  refine wpAny_bind (wpAny_pure (wpAny_bind ?_))
  unfold nsSet
  refine wpAny_bind (wpAny_bind (wpAny_askSetting (wpAny_pure (wpAny_bind (wpAny_mkText (wpAny_bind (wpAny_loadPart D ?_)))))))
  have c : (!es.toArray.any (·.key.isStr name) && es.toArray.any (·.refKey)) = false := by
    rw [← Array.any_toList, ← Array.any_toList]
    unfold getL at hl
    split at hl
    · rename_i en he
      rw [List.any_eq_true.mpr ⟨en, List.mem_of_find?_eq_some he, List.find?_some he⟩]; rfl
    · split at hl
      · cases hl
      · rename_i z; rw [Bool.not_eq_true] at z; rw [z, Bool.and_false]
  dsimp only
  rw [aRefKeyMayBeTheName_at, c]
  refine wpAny_updatePart D ?_
  refine wpAny_bind (wpAny_lookBehind D' (by exact pastItsLine_dict (by rw [List.size_toArray, sizeLine_eq]; omega)) ?_)
  exact wpAny_pure (h _ U1 U2)
/-- the first attribute of a DesignError: its dict is made -/
theorem set_firstD {x : Addr} {fs : Array Value} {sl : Array (Option Value)} {name : Str} {v : Value} {Q : Unit → Shared → Prop} (F : Fr h₀ L s.heap m) (X : (hd.heap_1_39 w.params).In h₀) (N : News h₀ L s.heap ((x, ⟨.ref 45, none, .fields fs, sl⟩) :: news)) (h2 : ∀ p ∈ news, p.1 ≠ x)
    (ha : findIn (hd.heap_1_39 w.params) (.ref 45) name = some none)
    (h : ∀ (D : Addr) h' tk k es, es = [⟨PyData.keyHash w.params name, .str name k, v⟩] → (∀ p ∈ news, p.1 ≠ D) → @Ne Nat x D → Fr h₀ L h' m → News h₀ L h' ((D, dictOf es 1) :: (x, ⟨.ref 45, some D, .fields fs, sl⟩) :: news) → Q () { s with heap := h', toks := tk }) :
    wpAny (model prog w) A (setAttr (.ref x) name v) Q E s := by
  have X' := X.keeps F.keep
  have hx : s.heap.get? x = some ⟨.ref 45, none, .fields fs, sl⟩ := (N _ (.head _)).1
  have I : W.InstAt s.heap x ⟨.ref 45, none, .fields fs, sl⟩ 45 none := ⟨hx, rfl, rfl, trivial⟩
  refine set_plain X' I (setaD _) (osaD (s := { s with toks := s.toks + 1 }) X' I ha fun b => ?_)
  obtain ⟨cd, hc, hm, hdd⟩ := clsInD w.params
  refine wpAny_bind (wpAny_pure (wpAny_bind (wpAny_bind (wpAny_loadPart hx (wpAny_bind ((looks_clsIn (M := model prog w) X' hc).here (s := { s with toks := s.toks + 1 }) ?_))))))
  rw [hdd]
  refine wpAny_bind (wpAny_alloc ?_)
  have N1 := N.push F emptyDict
  have F1 := F.push emptyDict
  have hne : ∀ p ∈ news, p.1 ≠ s.heap.objs.size := fun p hp => Nat.ne_of_lt (Heap.lt_size (N p (.tail _ hp)).1)
  have hxs : x < s.heap.objs.size := Heap.lt_size hx
  obtain ⟨U1, U2⟩ := news_upd (pre := [(s.heap.objs.size, emptyDict)]) (o' := ⟨.ref 45, some s.heap.objs.size, .fields fs, sl⟩) (f := fun o => { o with dict := some s.heap.objs.size }) F1 N1
    (fun p q => by rw [List.mem_singleton.mp q]; exact Nat.ne_of_gt hxs) h2 rfl rfl
  refine wpAny_bind (wpAny_update (N1 _ (.tail _ (.head _))).1 ?_)
  refine wpAny_pure ?_
  refine storeD (s := { s with heap := _, toks := s.toks + 1 }) (es := []) (n := 0) (post := (x, ⟨.ref 45, some s.heap.objs.size, .fields fs, sl⟩) :: news) U1 U2 (fun p q => ?_) rfl rfl (by show (1 : Nat) ≤ 1000; decide) fun h' F' N' => ?_
  · rcases List.mem_cons.mp q with rfl | q
    · exact Nat.ne_of_lt hxs
    · exact hne p q
  · exact h _ h' _ _ _ rfl hne (Nat.ne_of_lt hxs) F' N'
theorem putL_new (name : Str) (hsh : Int) (key v : Value) : ∀ es : List DictEntry, (es.any fun e => e.key.isStr name) = false → putL name hsh key v es = es ++ [⟨hsh, key, v⟩]
  | [], _ => rfl
  | e :: r, h => by
    rw [List.any_cons, Bool.or_eq_false_iff] at h
    rw [putL, h.1, putL_new name hsh key v r h.2]; rfl
/-- a further one -/
theorem set_nextD {x D : Addr} {fs : Array Value} {sl : Array (Option Value)} {name : Str} {v : Value} {es : List DictEntry} {n : Nat} {Q : Unit → Shared → Prop} (F : Fr h₀ L s.heap m) (X : (hd.heap_1_39 w.params).In h₀)
    (N : News h₀ L s.heap ((D, dictOf es n) :: (x, ⟨.ref 45, some D, .fields fs, sl⟩) :: news)) (h2 : ∀ p ∈ news, p.1 ≠ D) (h3 : @Ne Nat x D) (ha : findIn (hd.heap_1_39 w.params) (.ref 45) name = some none)
    (hn : (es.any fun e => e.key.isStr name) = false) (hr : es.any (·.refKey) = false) (hz : es.length ≤ 900)
    (h : ∀ h' tk k, Fr h₀ L h' m → News h₀ L h' ((D, dictOf (es ++ [⟨PyData.keyHash w.params name, .str name k, v⟩]) (n + 1)) :: (x, ⟨.ref 45, some D, .fields fs, sl⟩) :: news) → Q () { s with heap := h', toks := tk }) :
    wpAny (model prog w) A (setAttr (.ref x) name v) Q E s := by
  have X' := X.keeps F.keep
  have hx : s.heap.get? x = some ⟨.ref 45, some D, .fields fs, sl⟩ := (N _ (.tail _ (.head _))).1
  have I : W.InstAt s.heap x ⟨.ref 45, some D, .fields fs, sl⟩ 45 (some (dictOf es n)) := ⟨hx, rfl, rfl, (N _ (.head _)).1⟩
  refine set_plain X' I (setaD _) (osaD (s := { s with toks := s.toks + 1 }) X' I ha fun b => ?_)
  obtain ⟨cd, hc, hm, hdd⟩ := clsInD w.params
  refine wpAny_bind (wpAny_pure (wpAny_bind (wpAny_bind (wpAny_loadPart hx (wpAny_bind ((looks_clsIn (M := model prog w) X' hc).here (s := { s with toks := s.toks + 1 }) ?_))))))
  rw [hdd]
  refine wpAny_pure (a := some D) ?_
  have hl : (getL name es).isSome = true := by
    unfold getL
    rw [List.find?_eq_none.mpr fun e he => by have := List.any_eq_false.mp hn e he; simpa using this, hr]; rfl
  refine storeD (s := { s with toks := s.toks + 1 }) F N (fun p q => ?_) hl (by rw [putL_new _ _ _ _ _ hn]; unfold putN; rw [hn]; rfl) (by rw [List.length_append, List.length_singleton]; omega) fun h' F' N' => h h' _ _ F' N'
  rcases List.mem_cons.mp q with rfl | q
  · exact h3
  · exact h2 p q
theorem getcallD {hp : Heap} {g : Array GenState} {d : Drawn} {t : Nat} {os : OsState} {x : Addr} {ox : Obj} {od : Option Obj} {name : Str} {tk : Tok} {v : Value} {R : Result → Shared → Prop} (X : (hd.heap_1_39 w.params).In hp) (I : W.InstAt hp x ox 45 od)
    (hf : findObj (hd.heap_1_39 w.params) 45 od name = some (.value v)) (hq : R (.ok (.ret v)) ⟨hp, g, d, t, os⟩) :
    codeAny (model prog w) A (.call (.builtin "BaseException.__getattribute__") ⟨[.ref x, .str name tk], []⟩) R ⟨hp, g, d, t, os⟩ := by
  obtain ⟨cd, hc, hm, hdd⟩ := clsInD w.params
  have L0 := I.type (M := model prog w)
  have L1 := looks_find (M := model prog w) X I hf
  have sub : Looks (model prog w) hp (isInstance (.ref x) (.type "BaseException")) true := I.type.andThen (looks_mroIn X (by unfold mroIn; rw [hc, Option.bind_some, hm]; rfl))
  refine codeAny_call_builtin PySem.F.attr_Exception.ga.plain PySem.F.entry_bexc_ga (@check_slot (model prog w) _ _ ⟨hp, g, d, t, os⟩ "BaseException.__getattribute__" "BaseException" "__getattribute__" (.ref x) [.str name tk] [] _ (by decide +kernel) (by decide +kernel) sub (PySem.F.args_bexc_ga _ _) ?_)
  unfold Builtin.«object.__getattribute__»
  refine wpAny_bind (wpAny_of_eq (a := (Value.ref x, [Value.str name tk])) rfl ?_)
  refine wpAny_bind (wpAny_of_eq (a := name) rfl ?_)
  refine wpAny_bind (L0.at (wpAny_bind (L1.at ?_)))
  exact wpAny_pure hq
/-- an attribute read -/
theorem get_D {x : Addr} {ox : Obj} {es : List DictEntry} {n : Nat} {name : Str} {v : Value} {expr : Bool} {Q : Value → Shared → Prop} (X : (hd.heap_1_39 w.params).In s.heap) (I : W.InstAt s.heap x ox 45 (some (dictOf es n))) (ha : findIn (hd.heap_1_39 w.params) (.ref 45) name = some none)
    (hl : getL name es = some (some v)) (hh : handedIn v = true) (hq : Q v { s with toks := s.toks + 1 }) : wpAny (model prog w) A (getAttr (.ref x) name expr) Q E s := by
  obtain ⟨cd, hc, hm, hdd⟩ := clsInD w.params
  have hf : findObj (hd.heap_1_39 w.params) 45 (some (dictOf es n)) name = some (.value v) := findObj_own (by unfold hasDictIn; rw [hc]; exact hdd) ha rfl (by rw [lookIn_dict]; exact hl)
  have L0 := I.type (M := model prog w)
  have L2 := looks_findIn (M := model prog w) X (getaD _)
  have L3 := looks_findIn (M := model prog w) X (gethD _)
  have hx0 : (expr && onTheHeap (Value.builtin "BaseException.__getattribute__")) = false := by cases expr <;> rfl
  have hx2 : (onTheHeap (Value.ref 45) && Value.builtin "BaseException.__getattribute__" == Value.builtin "object.__getattribute__") = false := by
    rw [show (Value.builtin "BaseException.__getattribute__" == Value.builtin "object.__getattribute__") = false from by decide +kernel]; rfl
  obtain ⟨hp, g, d, t, os⟩ := s
  unfold getAttr getAttrBy
  refine wpAny_bind (wpAny_mkText (wpAny_holding (wpAny_bind (L0.at (wpAny_bind (L2.at ?_))))))
  dsimp only
  rw [hx2, if_neg (by decide)]
  unfold getAttrByItsOwn
  refine wpAny_bind (m := hookBefore (.ref 45)) (L3.at ?_)
  refine wpAny_bind (wpAny_attempt (wpAny_holding ?_))
  unfold callGetattribute
  rw [hx0, if_neg (by decide)]
  unfold boundAndCalled
  rw [PySem.F.attr_Exception.ga.bind]
  refine wpAny_bind (wpAny_pure ?_)
  refine wpAny_call (getcallD X I hf ?_)
  show wpAny _ _ (handedOut v) _ _ _
  rw [handedOut_of hh]; exact wpAny_pure hq
end
end Mine
end

section
open PySem PySem.W PyProof.Rows PySem.Calls PySem.Spec Builtin Builtin.ObjectAttr
set_option maxRecDepth 100000
namespace Mine
noncomputable abbrev excO (t : Addr) : Obj := ⟨.ref 45, none, .fields #[.ref t, .none, .none, .none, .bool false, .none], #[]⟩
section
variable {prog : Program} {w : World} {A : Around} {E : Value → Shared → Prop} {R : Result → Shared → Prop} {h : Heap} {g : Array GenState} {d : Drawn} {t : Nat} {os : OsState}
  {nm q : Str} {N : Addr} {bs : List Value} {sn : List Str} {sub : List Value} {ab : Bool} {col : Option Bool} {dd : Option Addr} {k0 k1 k2 k3 k5 : Option Value}
theorem check_newD {M : Model} {rest : List Value} {Q : Unit → Shared → Prop} (hC : h.get? 45 = some (excClassObj nm q 45 N bs bmD true sn sub ab col dd k0 k1 k2 k3 k5 "Exception.__new__")) (hq : Q () ⟨h, g, d, t, os⟩) :
    wpAny M A (checkBuiltinCall "Exception.__new__" ⟨.ref 45 :: rest, []⟩) Q E ⟨h, g, d, t, os⟩ := by
  have F := PySem.F.excBase_Exception
  have hcont : (Value.ref 45 :: bmD).contains (.type "Exception") = true := by decide +kernel
  have hstar := F.noStar
  simp only [checkBuiltinCall, F.newKind, F.newSplit, F.newRow]
  repeat (first | refine wpAny_loadPart_at hC ?_ | (refine wpAny_isSubtype_exc hC ?_; rw [hcont]) | refine wpAny_staticBase_exc hC ?_ | refine wpAny_madeBy_exc hC ?_ | simp only [bne_self_eq_false, Bool.false_eq_true, if_false] | wp_step)
  exact hq
theorem newD {rest : List Value} (hC : h.get? 45 = some (excClassObj nm q 45 N bs bmD true sn sub ab col dd k0 k1 k2 k3 k5 "Exception.__new__")) (hrest : rest.length ≤ 100)
    (hq : R (.ok (.ret (.ref (h.objs.size + 1)))) ⟨(h.push (tup rest)).push (excO h.objs.size), g, d, t, os⟩) :
    codeAny (model prog w) A (.builtin "Exception.__new__" ⟨.ref 45 :: rest, []⟩) R ⟨h, g, d, t, os⟩ := by
  have F := PySem.F.excBase_Exception
  have hends := F.ends
  have hz : rest.toArray.size ≤ sizeLine := by rw [List.size_toArray, sizeLine_eq]; omega
  have hz2 : rest.length ≤ sizeLine := by rw [sizeLine_eq]; omega
  have hcB : (Value.ref 45 :: bmD).contains (.type "Exception") = true := by decide +kernel
  have hcA : (Value.ref 45 :: bmD).contains (.type "AttributeError") = false := by decide +kernel
  have hcN : (Value.ref 45 :: bmD).contains (.type "NameError") = false := by decide +kernel
  refine codeAny_builtinAt F.entry ?_
  unfold Builtin.«BaseException.__new__»
  refine PySem.wpAt_bind ?_
  show PySem.wpAt _ _ _ (stack >>= _) _ _ _
  refine PySem.wpAt_bind (PySem.wpAt_stack fun p below => PySem.wpAt_of_wpAny ?_)
  wp_walk
  refine PySem.wpAt_of_wpAny ?_
  rw [F.owner]
  repeat (first | with_reducible refine wpAny_madeHere_exc F.canon hC ?_ | with_reducible refine wpAny_loadPart_at hC ?_ | (with_reducible refine wpAny_isSubtype_exc hC ?_; first | rw [hcB] | rw [hcA] | rw [hcN]) | wp_step)
  show R _ _
  rw [Heap.size_push]
  exact hq
end
section
variable {prog : Program} {w : World} {A : Around} {E : Value → Shared → Prop} {R : Result → Shared → Prop} {s : Shared} {h₀ : Heap} {L : Addr} {m : Str → Option Value} {news : Led}
theorem makeD {rest : List Value} (F : Fr h₀ L s.heap m) (X : (hd.heap_1_39 w.params).In s.heap) (N : News h₀ L s.heap news) (hrest : rest.length ≤ 100)
    (hq : ∀ x t h', Fr h₀ L h' m → News h₀ L h' ((x, excO t) :: (t, tup rest) :: news) → (∀ p ∈ (t, tup rest) :: news, p.1 ≠ x) →
      codeAny (model prog w) (A.under (.builtin "type.__call__" ⟨.ref 45 :: rest, []⟩)) (.call (.ref 29) ⟨.ref x :: rest, []⟩) (InitBack x R) { s with heap := h' }) :
    codeAny (model prog w) A (.call (.ref 45) ⟨rest, []⟩) R s := by
  obtain ⟨nm, q, Na, bs, sn, sub, ab, col, dd, k0, k1, k2, k3, k5, e⟩ := clsD w.params
  have hC := X _ _ e
  obtain ⟨cd, hc, hm, hdd⟩ := clsInD w.params
  have FE := PySem.F.excBase_Exception
  have hfun : typeIn (hd.heap_1_39 w.params) (.ref 29) = some (.type "function") := by kernel_rfl
  have hi := looks_findIn (M := model prog w) X (initD _)
  have call : Looks (model prog w) s.heap (specialOf (.ref 45) "__call__") (some (.builtin "type.__call__")) := looks_specialIn X (by kernel_rfl)
  have typ : Looks (model prog w) s.heap (isInstance (.ref 45) (.type "type")) true := looks_instIn X (by kernel_rfl)
  have F1 := F.push (tup rest)
  have N1 := N.push F (tup rest)
  have F2 := F1.push (excO s.heap.objs.size)
  have N2 := N1.push F1 (excO s.heap.objs.size)
  have hq' := hq _ _ _ F2 N2 (fun p hp => Nat.ne_of_lt (Heap.lt_size (N1 p hp).1))
  clear hq
  obtain ⟨hp, gg, dr, tk, os⟩ := s
  have madeBy : Looks (model prog w) hp (Bind.madeBy (.ref 45)) (some "Exception.__new__") := fun A Q E s k q => by
    obtain ⟨h2, g2, d2, t2, o2⟩ := s
    exact wpAny_madeBy_exc (k _ _ hC) q
  have hmro : Looks (model prog w) hp (mroOf (.ref 45)) (.ref 45 :: bmD) := hm ▸ (looks_clsIn X hc).andThen .now
  refine codeAny_of_tree ?_
  show wpAny _ _ (callAny (.ref 45) _) _ _ _
  refine nd_load hC ?_
  show wpAny _ _ (callAny.viaDunder (.ref 45) _) _ _ _
  unfold callAny.viaDunder
  refine wpAny_bind (call.at ?_)
  dsimp only
  rw [tc_bind]
  refine wpAny_bind (wpAny_pure (wpAny_bind (wpAny_pure ?_)))
  refine wpAny_pure (a := Fin.again (.call (.builtin "type.__call__") ⟨.ref 45 :: rest, []⟩)) (And.intro rfl ?_)
  refine codeAny_call_builtin_at (Code.quiet_builtin _ (by decide +kernel)) entry_typeCall (check_slot tc_kind tc_split typ (tc_args _ _ _) ?_)
  unfold Builtin.«type.__call__»
  repeat (first | with_reducible refine wpAny_call ?_ | lk)
  refine codeAny_call_builtin_code (Code.quiet_builtin _ FE.quiet) (check_newD hC ?_)
  refine newD hC hrest ?_
  dsimp only
  rw [show (hp.push (tup rest)).objs.size = hp.objs.size + 1 from Heap.size_push _ _] at hq' N2
  have k : ∀ b o, hp.get? b = some o → ((hp.push (tup rest)).push (excO hp.objs.size)).get? b = some o := fun b o e => Heap.get?_push_of_some _ (Heap.get?_push_of_some _ e)
  have X2 : (hd.heap_1_39 w.params).In ((hp.push (tup rest)).push (excO hp.objs.size)) := X.keeps k
  have t1 : Looks (model prog w) ((hp.push (tup rest)).push (excO hp.objs.size)) (typeOf (.ref (hp.objs.size + 1))) (.ref 45) := (Looks.ld (N2 _ (.head _)).1).andThen .now
  have s1 : Looks (model prog w) ((hp.push (tup rest)).push (excO hp.objs.size)) (isSubtype (.ref 45) (.ref 45)) true := looks_mroIn X2 (by unfold mroIn; rw [hc, Option.bind_some, hm]; rfl)
  have i1 := hi.keeps k
  have b1 := bind_fn (M := model prog w) X2 (.ref (hp.objs.size + 1)) hfun
  unfold isInstance callSpecial? specialOf
  repeat (first | with_reducible refine wpAny_call ?_ | lk)
  refine codeAny_mono hq' fun r s' z => ?_
  rcases r with e | (v | _ | _ | _) <;> first | exact z | exact z.elim | skip
  obtain ⟨rfl, z⟩ := z
  exact wpAny_pure (wpAny_pure z)
end
end Mine
end

section
open PySem PySem.W PyProof.Rows PySem.Calls PySem.Spec
set_option maxRecDepth 100000
namespace Mine
section
variable {prog : Program} {w : World} {A : Around} {E : Value → Shared → Prop} {s : Shared} {env : Env} {h₀ : Heap} {x : Str} {body : List Stmt} {Q : Flow → Shared → Prop}
set_option maxHeartbeats 3200000 in
/-- a for over a tuple of the ledger, by what holds ahead of each turn -/
theorem tup_iter {l : Addr} {vs : List Value} {m₀ : Str → Option Value} {news : Led} (J : Nat → (Str → Option Value) → Led → Prop)
    (hh : A.handled = none) (hl : (l, tup vs) ∈ news) (F : Fr h₀ env.locals s.heap m₀) (N : News h₀ env.locals s.heap news) (hj : J 0 m₀ news)
    (turn : ∀ i v m₁ news₁ h tk own, vs[i]? = some v → OwnOff own (news₁.map (·.1)) → (l, tup vs) ∈ news₁ → J i m₁ news₁ → Fr h₀ env.locals h (fun y => if y = x then some v else m₁ y) → News h₀ env.locals h (news₁ ++ own) →
      wpAny (model prog w) A (execs body env) (InvPostG h₀ env.locals (fun m' nx => (l, tup vs) ∈ nx ∧ J (i + 1) m' nx) own { s with heap := h, toks := tk } Q) E { s with heap := h, toks := tk })
    (done : ∀ m₁ news₁ h tk, J vs.length m₁ news₁ → Fr h₀ env.locals h m₁ → News h₀ env.locals h news₁ → Q .next { s with heap := h, toks := tk }) :
    wpAny (model prog w) A (pyIter (.ref l)) (fun it s₂ => LoopAtV prog w A h₀ env x body Q E it s₂) E s := by
  have hol : s.heap.get? l = some (tup vs) := (N _ hl).1
  have hls : s.heap.IsTuple l vs.toArray := ⟨_, hol, rfl, 0, rfl⟩
  have hne : l ≠ s.heap.objs.size := Nat.ne_of_lt (Heap.lt_size hol)
  refine wpAny_pyIter_tuple hls ?_
  have W := walksTup (prog := prog) (w := w) hh s.heap.objs.size l hne vs
  refine ⟨_, _, _, vs.length, _, _, m₀, news, (fun i m nx => (l, tup vs) ∈ nx ∧ J i m nx), rfl, W, ?_, ?_, ?_, ⟨⟨_, Heap.get?_push_size _ rfl, rfl, rfl⟩, ⟨_, Heap.get?_push_of_some _ hol, rfl, 0, rfl⟩⟩, F.push _, (fun p hp => ⟨Heap.get?_push_of_some _ (N p hp).1, (N p hp).2⟩), ⟨hl, hj⟩, ?_, ?_⟩
  · intro hm
    rcases List.mem_cons.mp hm with e | hm
    · exact absurd F.ns.lt (e ▸ Nat.lt_irrefl _)
    · exact (N _ hl).2.1 ((List.mem_singleton.mp hm).symm)
  · intro b hb
    rw [List.mem_singleton.mp hb]
    exact next_is_new F
  · intro p hp hI
    exact absurd (Heap.lt_size (N p hp).1) ((List.mem_singleton.mp hI) ▸ Nat.lt_irrefl _)
  · rintro i v m₁ news₁ s₁ own ⟨hh', tk', rfl⟩ hin hP ⟨hl₁, hJ⟩ hoff hown hget hfp hst F₁ N₁
    have hI0 : h₀.get? s.heap.objs.size = none := next_is_new F
    obtain ⟨⟨oI, hoI, _⟩, _⟩ := id hst
    have hIown : (s.heap.objs.size, oI) ∈ own.filter fun p => decide (p.1 = s.heap.objs.size) := List.mem_filter.mpr ⟨hfp _ (List.mem_cons.mpr (.inl rfl)) hI0 _ hoI, by simp⟩
    have hsep : OwnOff (own.filter fun p => decide (p.1 = s.heap.objs.size)) (news₁.map (·.1)) := by
      intro p hp b hb e
      obtain ⟨q, hq, rfl⟩ := List.mem_map.mp hb
      have h1 : p.1 = s.heap.objs.size := by simpa using (List.mem_filter.mp hp).2
      exact hoff q hq (List.mem_singleton.mpr (e ▸ h1))
    have N₂ : News h₀ env.locals hh' (news₁ ++ own.filter fun p => decide (p.1 = s.heap.objs.size)) := fun p hp => N₁ p ((List.mem_append.mp hp).elim (fun h => List.mem_append.mpr (.inr h)) fun h => List.mem_append.mpr (.inl ((List.mem_filter.mp h).1)))
    have hlo : hh'.get? l = some (tup vs) := (N₁ _ (List.mem_append.mpr (.inr hl₁))).1
    refine wpAny_mono (turn i v m₁ news₁ hh' tk' _ hP hsep hl₁ hJ F₁ N₂) (fun f s₂ p => ?_) fun _ _ e => e
    have fin : InvEndG h₀ env.locals (fun m' nx => (l, tup vs) ∈ nx ∧ J (i + 1) m' nx) (own.filter fun p => decide (p.1 = s.heap.objs.size)) { s with heap := hh', toks := tk' } s₂ →
        LoopStepU h₀ env.locals [s.heap.objs.size] own (fun m nx => (l, tup vs) ∈ nx ∧ J (i + 1) m nx) { s with heap := hh', toks := tk' } .next s₂ := by
      rintro ⟨h', tk, m', news', nx, e, F', N', hn, ho, ha, hm⟩
      refine ⟨rfl, h', tk, m', nx, e, F', fun p hp => ?_, fun p hp hq => ?_, hm⟩
      · rcases List.mem_append.mp hp with h | h
        · by_cases hI : p.1 = s.heap.objs.size
          · exact N' p (ho p (List.mem_filter.mpr ⟨h, by simpa using hI⟩))
          · have h1 : p.1 = l := by
              rcases List.mem_cons.mp (hown p h) with h2 | h2
              · exact absurd h2 hI
              · exact List.mem_singleton.mp h2
            have h2 : hh'.get? p.1 = some p.2 := hget p h
            rw [h1, hlo] at h2
            have h3 : p = (l, tup vs) := Prod.ext h1 (Option.some.inj h2).symm
            rw [h3]
            exact N' _ (hn _ hm.1)
        · exact N' p (hn p h)
      · exact ha _ hIown p.1 (List.mem_map.mpr ⟨p, hp, rfl⟩) (List.mem_singleton.mp hq).symm
    cases f with
    | ret v => exact .ret p
    | brk => exact .brk p
    | next => exact .next (fin p)
    | cont => exact .cont (fin p)
  · rintro h' tk m' news' F' N' _ ⟨_, hJ⟩
    exact done m' news' h' tk hJ F' N'
end
end Mine
end

section
open PySem PySem.W PyProof.Rows PySem.Calls PySem.Spec
set_option maxRecDepth 100000
namespace Mine
/-- a DesignError e whose dict is d, its newest traceback entry in flight at fl -/
noncomputable def TrD (h base : Heap) (e d : Addr) (fl : Value) : Prop :=
  ∃ vs sl T oT ts, h.get? e = some ⟨.ref 45, some d, .fields vs, sl⟩ ∧ (vs[1]? = some (.ref T) ∧ vs[2]? = some .none) ∧ base.get? T = none ∧ T ≠ e ∧ h.get? T = some oT ∧ oT.data = .fields ts ∧ ts[3]? = some fl
noncomputable def NotD (base : Heap) (l : List Env) (e d : Addr) (fl : Value) (h h' : Heap) : Prop := base.StaysIn h' ∧ h'.FunFrames base l ∧ TrD h' base e d fl ∧ h.UpToSlots h'
section
variable {M : Model} {A : Around} {E : Value → Shared → Prop} {s : Shared} {base : Heap} {env : Env} {outer : List Env} {L e d : Addr} {Q : Unit → Shared → Prop}
theorem entryD {vs : Array Value} {sl : Array (Option Value)} {head : Value} {hadNext : Bool} (hfr : A.frames = some (env :: outer)) (hl : s.heap.FunFrames base (env :: outer)) (hf : env.frame = some L)
    (he : s.heap.get? e = some ⟨.ref 45, some d, .fields vs, sl⟩) (hkb : base.StaysIn s.heap) (hen : base.get? e = none) (hsz : 1 < vs.size) (h2 : vs[2]? = some .none)
    (h : ∀ h', NotD base (env :: outer) e d (rawInt L) s.heap h' → Q () { s with heap := h' }) :
    wpAny M A (do let a ← frameOf env; let pl ← entryPlaceOf L hadNext; let b ← EntryCells.newEntry head a .none (rawInt L) .none pl; setField (.ref e) 1 b) Q E s := by
  have hene : e ∉ (env :: outer).filterMap (·.frame) := fun hm => by
    obtain ⟨_, o, ho, hnf⟩ := hl.mem hm
    rw [he] at ho; injection ho with ho; subst ho; exact hnf vs rfl
  refine wpAny_bind (wpAny_frameOf_fun hfr hl hf fun h₁ hs₁ => wpAny_bind (wpAny_entryPlaceOf fun pl hpl => ?_))
  unfold EntryCells.newEntry newFields
  refine wpAny_bind (wpAny_newObj_type ?_ (hpl.sizeOk5 _ _ _ _ _))
  have he₁ : h₁.get? e = some ⟨.ref 45, some d, .fields vs, sl⟩ := (hs₁.2.1 e hene).trans he
  have kb₁ : base.StaysIn h₁ := fun b o hbo => (hs₁.2.1 b fun hm => by rw [(hl.mem hm).1] at hbo; cases hbo).trans (hkb b o hbo)
  generalize hT : ({ cls := .type "traceback", dict := none, data := .fields ([head, .ref L, .none, rawInt L, .none] ++ (if pl.isEmpty then List.replicate 6 Value.none else pl)).toArray } : Obj) = oT
  have hTd : oT.data = .fields ([head, .ref L, .none, rawInt L, .none] ++ (if pl.isEmpty then List.replicate 6 Value.none else pl)).toArray := by rw [← hT]
  have he₂ := Heap.get?_push_of_some (h := h₁) oT he₁
  refine wpAny_setField he₂ rfl hsz (h _ ?_)
  have hTe : h₁.objs.size ≠ e := Nat.ne_of_gt (Heap.lt_size he₁)
  have he₃ := Heap.get?_update_self (Obj.mapFields (·.setIfInBounds 1 (Value.ref h₁.objs.size))) he₂ rfl
  have hT₃ := (Heap.get?_update_other (h₁.push oT) (Obj.mapFields (·.setIfInBounds 1 (Value.ref h₁.objs.size))) (Ne.symm hTe)).trans (Heap.get?_push_size h₁ (by rw [← hT]; rfl))
  have keep : ∀ b o, b ≠ e → h₁.get? b = some o → ((h₁.push oT).update e (Obj.mapFields (·.setIfInBounds 1 (Value.ref h₁.objs.size)))).get? b = some o := fun b o hbe hb => by
    rw [Heap.get?_update_other _ _ (Ne.symm hbe)]; exact Heap.get?_push_of_some _ hb
  have noRecord : ∀ b o, s.heap.get? b = some o → (∀ vs, o.data ≠ .fields vs) → b ≠ e := fun b o hb hnf q => by
    rw [q, he] at hb; injection hb with hb; subst hb; exact hnf vs rfl
  refine ⟨fun b o hbo => keep b o (fun q => by rw [q, hen] at hbo; cases hbo) (kb₁ b o hbo), hl.of_keeps fun b o hb hnf => ?_, ?_, fun b o hb hnf => ?_⟩
  · obtain ⟨sl', hs⟩ := hs₁.2.2 b o hb
    exact ⟨_, keep b _ (noRecord b o hb hnf) hs, rfl⟩
  · exact ⟨vs.setIfInBounds 1 (.ref h₁.objs.size), sl, h₁.objs.size, _, _, he₃, ⟨by simp [hsz], by rw [Array.getElem?_setIfInBounds_ne (by decide)]; exact h2⟩, kb₁.fresh, hTe, hT₃, hTd, by first | (simp; done) | (rcases hpl with rfl | ⟨_, _, _, _, _, _, _, rfl⟩ <;> simp)⟩
  · obtain ⟨sl', hs⟩ := hs₁.2.2 b o hb
    exact ⟨sl', keep b _ (noRecord b o hb hnf) hs⟩
theorem note_firstD {vs : Array Value} {sl : Array (Option Value)} (hfr : A.frames = some (env :: outer)) (hl : s.heap.FunFrames base (env :: outer)) (hf : env.frame = some L)
    (he : s.heap.get? e = some ⟨.ref 45, some d, .fields vs, sl⟩) (hkb : base.StaysIn s.heap) (hen : base.get? e = none) (h1 : vs[1]? = some .none) (h2 : vs[2]? = some .none)
    (h : ∀ h', NotD base (env :: outer) e d (rawInt L) s.heap h' → Q () { s with heap := h' }) : wpAny M A (noteFrame (.ref e) env) Q E s := by
  unfold noteFrame
  simp only [hf]
  refine wpAny_bind (wpAny_field he rfl h1 ?_)
  rw [if_neg (by decide)]
  exact entryD hfr hl hf he hkb hen (Array.getElem?_eq_some_iff.mp h1).1 h2 h
theorem flightD {fl : Value} {l : List Env} (hkb : base.StaysIn s.heap) (hl : s.heap.FunFrames base l) (ht : TrD s.heap base e d fl) (h : ∀ h', NotD base l e d .none s.heap h' → Q () { s with heap := h' }) :
    wpAny M A (setFlight (.ref e) none) Q E s := by
  obtain ⟨vs, sl, T, oT, ts, he, ⟨h1, h2⟩, hnT, hTe, hT, hdT, h3⟩ := ht
  have hsz3 : 3 < ts.size := (Array.getElem?_eq_some_iff.mp h3).1
  have other : ∀ b, b ≠ T → (s.heap.update T (Obj.mapFields (·.setIfInBounds 3 ((none : Option Addr).elim Value.none fun f => rawInt f)))).get? b = s.heap.get? b := fun b hb => Heap.get?_update_other _ _ (Ne.symm hb)
  have noRecord : ∀ b o, s.heap.get? b = some o → (∀ vs, o.data ≠ .fields vs) → b ≠ T := fun b o hb hnf q => by
    rw [q, hT] at hb; injection hb with hb; subst hb; exact hnf ts hdT
  unfold setFlight
  refine wpAny_bind (wpAny_field he rfl h1 ?_)
  rw [if_pos (show (Value.ref T != Value.none) = true from by simp)]
  refine wpAny_setField hT hdT hsz3 (h _ ⟨fun b o hbo => (other b fun q => by rw [q, hnT] at hbo; cases hbo).trans (hkb b o hbo),
    hl.of_keeps fun b o hb hnf => ⟨o, (other b (noRecord b o hb hnf)).trans hb, rfl⟩, ?_, fun b o hb hnf => ⟨o.slots, (other b (noRecord b o hb hnf)).trans hb⟩⟩)
  exact ⟨vs, sl, T, _, _, (other e (Ne.symm hTe)).trans he, ⟨h1, h2⟩, hnT, hTe, Heap.get?_update_self _ hT (Obj.isFreed_of_fields (Obj.data_mapFields hdT _)), Obj.data_mapFields hdT _, by simp [hsz3]⟩
theorem note_nextD (hfr : A.frames = some (env :: outer)) (hl : s.heap.FunFrames base (env :: outer)) (hf : env.frame = some L)
    (ht : TrD s.heap base e d .none) (hkb : base.StaysIn s.heap) (hen : base.get? e = none)
    (h : ∀ h', NotD base (env :: outer) e d (rawInt L) s.heap h' → Q () { s with heap := h' }) : wpAny M A (noteFrame (.ref e) env) Q E s := by
  obtain ⟨vs, sl, T, oT, ts, he, ⟨h1, h2⟩, hnT, hTe, hT, hdT, h3⟩ := ht
  unfold noteFrame
  simp only [hf]
  refine wpAny_bind (wpAny_field he rfl h1 ?_)
  rw [if_pos (show (Value.ref T != Value.none) = true from by simp)]
  refine wpAny_bind (wpAny_field hT hdT h3 ?_)
  rw [if_neg (show ¬ ((Value.none == rawInt L) = true) from by simp [rawInt])]
  refine wpAny_bind (wpAny_setField hT hdT (Array.getElem?_eq_some_iff.mp h3).1 ?_)
  have other : ∀ b, b ≠ T → (s.heap.update T (Obj.mapFields (·.setIfInBounds 3 Value.none))).get? b = s.heap.get? b := fun b hb => Heap.get?_update_other _ _ (Ne.symm hb)
  have noRecord : ∀ b o, s.heap.get? b = some o → (∀ vs, o.data ≠ .fields vs) → b ≠ T := fun b o hb hnf q => by
    rw [q, hT] at hb; injection hb with hb; subst hb; exact hnf ts hdT
  refine entryD hfr (hl.of_keeps fun b o hb hnf => ⟨o, (other b (noRecord b o hb hnf)).trans hb, rfl⟩) hf ((other e (Ne.symm hTe)).trans he)
    (fun b o hbo => (other b fun q => by rw [q, hnT] at hbo; cases hbo).trans (hkb b o hbo)) hen (Array.getElem?_eq_some_iff.mp h1).1 h2
    fun h' ⟨x1, x2, x3, x4⟩ => h h' ⟨x1, x2, x3, fun b o hb hnf => x4 b o ((other b (noRecord b o hb hnf)).trans hb) hnf⟩
end

/-- a DesignError on its way, behind a frame that it has left -/
noncomputable def RaisedD (base G : Heap) (l : List Env) (e d : Addr) (news : Led) (h : Heap) : Prop :=
  ∃ B, base.StaysIn B ∧ (∀ b o, G.get? b = some o → b ∉ l.filterMap (·.frame) → B.get? b = some o) ∧ (∀ q ∈ news, B.get? q.1 = some q.2 ∧ G.get? q.1 = none ∧ base.get? q.1 = none) ∧ B.StaysIn h ∧ B.get? e = none ∧ h.FunFrames B l ∧ TrD h B e d .none
section
variable {M : Model} {A : Around} {E : Value → Shared → Prop} {s' : Shared} {base g : Heap} {outer : List Env} {L a e d : Addr} {m : Str → Option Value} {name : Str} {scope : Scope} {cd : Value} {Q : Unit → Shared → Prop} {news : Led}
theorem leaveD {vs : Array Value} {sl : Array (Option Value)} (K : Below A base outer g) (F : Fr g L s'.heap m) (N : News g L s'.heap ((e, ⟨.ref 45, some d, .fields vs, sl⟩) :: news)) (hne : ∀ p ∈ news, p.1 ≠ e) (h1 : vs[1]? = some .none) (h2 : vs[2]? = some .none)
    (hQ : ∀ h', RaisedD base g outer e d news h' → g.UpToSlots h' → Q () { s' with heap := h' }) (hk : scope.kind = .function := by rfl) :
    wpAny M (A.deeper (envOf name scope L a cd)) (leaving (envOf name scope L a cd) (.ref e)) Q E s' := by
  have K' := K.push (name := name) (a := a) (cd := cd) F hk
  have he := N _ (.head _)
  have hfr : ∀ q : Addr × Obj, g.get? q.1 = none → q.1 ≠ L → s'.heap.get? q.1 = some q.2 → q.1 ∉ (envOf name scope L a cd :: outer).filterMap (·.frame) := fun q h0 hL _ hm => by
    rcases kts_mem hm with z | z
    · exact hL z
    · obtain ⟨_, o, ho, _⟩ := K.frames.mem z
      rw [h0] at ho; cases ho
  have hgn : ∀ b o, g.get? b = some o → b ≠ e := fun b o q z => by rw [z, he.2.2] at q; cases q
  have st : base.StaysIn (hideAll s'.heap (e :: (envOf name scope L a cd :: outer).filterMap (·.frame))) := fun b o q => hideAll_get _ (K'.stays b o q) fun hm => by
    rcases List.mem_cons.mp hm with z | hm
    · exact hgn b o (K.stays b o q) z
    · rw [(K'.frames.mem hm).1] at q; cases q
  have sg : ∀ b o, g.get? b = some o → b ∉ outer.filterMap (·.frame) → (hideAll s'.heap (e :: (envOf name scope L a cd :: outer).filterMap (·.frame))).get? b = some o := fun b o q nm => hideAll_get _ (F.keep b o q) fun hm => by
    rcases List.mem_cons.mp hm with z | hm
    · exact hgn b o q z
    rcases kts_mem hm with z | z
    · rw [z, kts_self F] at q
      cases q
    · exact nm z
  have hl : ∀ q ∈ news, (hideAll s'.heap (e :: (envOf name scope L a cd :: outer).filterMap (·.frame))).get? q.1 = some q.2 ∧ g.get? q.1 = none ∧ base.get? q.1 = none := fun q hq => by
    have Nq := N q (.tail _ hq)
    refine ⟨hideAll_get _ Nq.1 fun hm => ?_, Nq.2.2, fresh_of_stays K.stays Nq.2.2⟩
    rcases List.mem_cons.mp hm with z | hm
    · exact hne q hq z
    · exact hfr q Nq.2.2 Nq.2.1 Nq.1 hm
  have hB : (hideAll s'.heap (e :: (envOf name scope L a cd :: outer).filterMap (·.frame))).get? e = none := hideAll_none _ (.head _)
  have hff : s'.heap.FunFrames (hideAll s'.heap (e :: (envOf name scope L a cd :: outer).filterMap (·.frame))) (envOf name scope L a cd :: outer) :=
    funFrames_hide K'.frames fun env he' b hb => List.mem_cons_of_mem _ (List.mem_filterMap.mpr ⟨env, he', hb⟩)
  unfold leaving
  refine wpAny_bind (note_firstD K'.stack hff rfl he.1 (fun b o q => of_hideAll _ q) hB h1 h2 fun h₁ n₁ => ?_)
  obtain ⟨a1, a2, a3, a4⟩ := n₁
  refine flightD a1 a2 a3 fun h₂ n₂ => ?_
  obtain ⟨b1, ⟨_, _, b2⟩, b3, b4⟩ := n₂
  exact hQ h₂ ⟨_, st, sg, hl, b1, hB, b2, b3⟩ (((Heap.UpToSlots.of_keeps F.keep).trans a4).trans b4)
end
end Mine
end

section
open PySem PySem.W PyProof.Rows PySem.Calls PySem.Spec
set_option maxRecDepth 100000
namespace Mine
/-- the ground of a frame stays where only another frame's slots have turned -/
theorem turn_stays {h₀ g g' : Heap} {L : Addr} {m : Str → Option Value} (F : Fr h₀ L g m) (T : KtsTurn [L] g g') : h₀.StaysIn g' := fun b o e => T.other b o (F.keep b o e) fun q => by
  rw [List.mem_singleton.mp q, kts_self F] at e; cases e
theorem turn_fr {h₀ g g' : Heap} {L : Addr} {m : Str → Option Value} (F : Fr h₀ L g m) (T : KtsTurn [L] g g') : Fr h₀ L g' m := by
  obtain ⟨oL, es, ep, hL, hd, r⟩ := F.ns
  obtain ⟨sl, hs⟩ := T.up hL
  exact ⟨⟨_, es, ep, hs, hd, r⟩, turn_stays F T, F.above⟩
section
variable {prog : Program} {w : World} {A₀ : Around} {E : Value → Shared → Prop} {s' : Shared} {base g G h₀ : Heap} {env₁ : Env} {L L₁ a e d : Addr} {m m₁ : Str → Option Value} {name : Str} {scope : Scope} {cd : Value}
  {n : Str} {b₀ : Stmt} {suite : List Stmt} {pos np : Pos} {rest : List ExceptHandler} {Q : Flow → Shared → Prop} {news : Led} {mean : ExcName → Option Value} {mg mb : Str → Option Value} {loose : List Str}
theorem caughtD (R : RaisedD base G [envOf name scope L a cd, env₁] e d news s'.heap) (F : Fr g L G m) (K : Below A₀ base [env₁] g) (hsm : G.UpToSlots s'.heap) (FL : Fr h₀ L₁ g m₁) (hf : env₁.frame = some L₁)
    (X : (hd.heap_1_39 w.params).In h₀) (T : Top hd.view_1_40 loose mean mg mb h₀)
    (k : ∀ h' g' tk vs sl, vs[2]? = some .none → KtsTurn [L₁] g g' → Fr g' L h' (fun y => if y = n then some (.ref e) else m y) → News g' L h' ((e, ⟨.ref 45, some d, .fields vs, sl⟩) :: news) → Below A₀ base [env₁] g' → Fr h₀ L₁ g' m₁ → (hd.heap_1_39 w.params).In g' → Top hd.view_1_40 loose mean mg mb g' →
      wpAny (model prog w) ((A₀.deeper (envOf name scope L a cd)).mark (some (.ref e))) (execs (b₀ :: suite) (envOf name scope L a cd))
        (fun f s₄ => wpAny (model prog w) (A₀.deeper (envOf name scope L a cd)) (do bindName (envOf name scope L a cd) n .none; unbindBehindTheSuite (envOf name scope L a cd) n pos) (fun _ s₅ => Q f s₅) E s₄)
        (AsSuiteRaised (model prog w) ((A₀.deeper (envOf name scope L a cd)).mark (some (.ref e))) (envOf name scope L a cd) n pos (notedBy (model prog w) ((A₀.deeper (envOf name scope L a cd)).mark (some (.ref e))) (envOf name scope L a cd) (cameBackBy (model prog w) (A₀.deeper (envOf name scope L a cd)) (envOf name scope L a cd) E)))
        { s' with heap := h', toks := tk })
    (hk : scope.kind = .function := by rfl) (hlo : (envOf name scope L a cd).kindOf n = some .local := by rfl) (hx : (envOf name scope L a cd).kindOf (Str.ofString "DesignError") = some .globalImplicit := by rfl) :
    wpAny (model prog w) (A₀.deeper (envOf name scope L a cd)) (noteFrame (.ref e) (envOf name scope L a cd))
      (fun _ s₂ => wpAny (model prog w) (A₀.deeper (envOf name scope L a cd)) (setFlight (.ref e) none) (fun _ s₃ =>
        wpAny (model prog w) (A₀.deeper (envOf name scope L a cd)) (handleBy (.ref e) (envOf name scope L a cd) (.ExceptHandler (some (.Name (Str.ofString "DesignError") np)) (some n) (b₀ :: suite) pos :: rest)) Q E s₃) E s₂) E s' := by
  generalize hG9 : wpAny _ _ _ _ _ _ = G9
  obtain ⟨B, hB, hBG, hl, hBs, hBe, hff, htr⟩ := R
  subst hG9
  have hfs : [env₁].filterMap (·.frame) = [L₁] := by simp [hf]
  have hL : B.get? L = none := by
    obtain ⟨_, ⟨L', _, hf, hn', _⟩, _⟩ := hff
    obtain rfl : L = L' := Option.some.inj hf
    exact hn'
  refine note_nextD (Around.frames_deeper K.stack) hff rfl htr hBs hBe fun h₄ n₄ => ?_
  have a1 := n₄.1
  have a2 := n₄.2.1
  have a3 := n₄.2.2.1
  have a4 := n₄.2.2.2
  refine flightD a1 a2 a3 fun h₅ n₅ => ?_
  have b1 := n₅.1
  have b2 := n₅.2.1
  have b3 := n₅.2.2.1
  have b4 := n₅.2.2.2
  have hsm₅ := (hsm.trans a4).trans b4
  generalize hG9 : wpAny _ _ _ _ _ _ = G9
  obtain ⟨g₅, T₅, F₅, K₅⟩ := kts_ground K F hBG b1 hsm₅
  rw [hfs] at T₅
  have X₅ : (hd.heap_1_39 w.params).In g₅ := X.keeps (turn_stays FL T₅)
  have P₅ : TopRead hd.view_1_40 loose mg mb g₅ := topRead_of (T.keeps (turn_stays FL T₅))
  obtain ⟨vs, sl, Tb, oT, ts, he₅, _⟩ := id b3
  obtain ⟨nm, q, Na, bs, sn, sub, ab, col, dd, k0, k1, k2, k3, k5, eC⟩ := clsD w.params
  have hC₅ := F₅.keep _ _ (X₅ _ _ eC)
  subst hG9
  refine wpAny_handleBy_cons (codeAny_handlers_test (name_K (v := .ref 45) F₅ X₅ P₅ (by kernel_rfl) ?_ hk hx (by decide))) (by intro q; cases q)
  refine wpAny_excMatches_sub_self hC₅ he₅ rfl (by decide +kernel) (codeAny_handlers_suite_as ?_)
  refine flightD b1 b2 b3 fun h₆ n₆ => ?_
  have c1 := n₆.1
  have c2 := n₆.2.1
  have c3 := n₆.2.2.1
  have c4 := n₆.2.2.2
  have hsm₆ := hsm₅.trans c4
  generalize hG9 : wpAny _ _ _ _ _ _ = G9
  obtain ⟨g₆, T₆, F₆, K₆⟩ := kts_ground K F hBG c1 hsm₆
  obtain ⟨vs, sl, Tb, oT, ts, he₆, ⟨_, hv2⟩, _⟩ := id c3
  have ne₆ : g₆.get? e = none := T₆.none_ _ (kts_fresh F hBG hBe fun o ho m => by
    obtain ⟨_, o', ho', hd⟩ := K.frames.mem m
    rw [ho] at ho'
    cases ho'
    obtain ⟨sl', hs⟩ := hsm₆ _ _ (F.keep _ _ ho) hd
    rw [he₆] at hs
    injection hs with hs
    exact hd vs (by have := congrArg Obj.data hs; exact this.symm))
  have N₆ := News.more F₆ News.nil he₆ (fun es n q => by cases q) ne₆
  have Nl : News g₆ L h₆ news := fun q hq => ⟨c1 _ _ (hl q hq).1, (fun z => by have := (hl q hq).1; rw [z, hL] at this; cases this), T₆.none_ _ (kts_none F.keep (hl q hq).2.1)⟩
  rw [hfs] at T₆
  subst hG9
  have st := turn_stays FL T₆
  refine stN F₆ (news := _ ++ news) (fun q hq => (List.mem_append.mp hq).elim (N₆ q) (Nl q)) (fun h₇ F₇ N₇ => ?_) hk hlo
  exact k h₇ g₆ _ vs sl hv2 T₆ F₇ N₇ K₆ (turn_fr FL T₆) (X.keeps st) (T.keeps st)
end
section
variable {prog : Program} {w : World} {A₀ A : Around} {s : Shared} {base h₀ : Heap} {L : Addr} {m : Str → Option Value} {env : Env} {news : Led} {K : Frag} {p : Program} {loose : List Str} {mean : ExcName → Option Value} {mg mb : Str → Option Value}
    {R : Result → Shared → Prop} {name qual : Str} {params : Arguments} {body : List Stmt} {scope : Scope} {dV kV doc pm cdv ct oc : Value} {an od : Option Addr} {osl : Array (Option Value)} {f : Addr} {args : Args} {binds : List (Str × Value)}
/-- a def entered from the lowest frame; behind an exception caught in it that frame's slots may have turned -/
theorem code_defR (B : Below A₀ base [] h₀) (F : Fr h₀ L s.heap m) (X₀ : K.In h₀) (N : News h₀ L s.heap news) (T : Top p loose mean mg mb h₀) (hA : A.frames = some [env]) (hf : env.frame = some L) (hke : env.scope.kind = .function)
    (ho : K.lookup f = some ⟨oc, od, .func (fnOf name qual params body scope dV kV doc pm an cdv ct), osl⟩) (hcd : codeIn K cdv qual = true) (hroom : A.depth < recursionLimit)
    (hbind : BindsTo s (fnOf name qual params body scope dV kV doc pm an cdv ct) args binds) (hloc : ∀ y ∈ binds, scope.names.lookup y.1 = some .local)
    (h : ∀ g L' h₁, Fr h₀ L g m → Fr g L' h₁ (fun y => binds.reverse.lookup y) → News g L' h₁ news → Below A base [env] g → K.In g → Top p loose mean mg mb g →
      wpAny (model prog w) (A.deeper (envOf qual scope L' f cdv)) (execs body (envOf qual scope L' f cdv))
        (fun fl s' => LeaveS0 [L] h₀ L m g R (match fl with | .ret v => v | _ => .none) s')
        (fun e s' => wpAny (model prog w) (A.deeper (envOf qual scope L' f cdv)) (leaving (envOf qual scope L' f cdv) e) (fun _ s'' => R (.error e) s'') (fun e' s'' => R (.error e') s'') s')
        { s with heap := h₁, toks := s.toks + binds.length })
    (hco : scope.isCoroutine = false) (hgen : scope.isGenerator = false) (hk : scope.kind = .function)
    (hcell : ∀ x ∈ scope.names, x.2 ≠ .cell) : codeAny (model prog w) A (.call (.ref f) args) R s := by
  have X := X₀.keeps F.keep
  obtain ⟨FG, BG, st, _⟩ := groundX (R := R) B F N hA hf hke
  refine codeAny_call_def (fd := fnOf name qual params body scope dV kV doc pm an cdv ct) (body := body) (binds := binds) hroom (X _ _ ho) rfl (T.nolimit.keeps F.keep) (codeRec_of X hcd) rfl hbind hcell hloc (fun h₁ hns hk₁ => ?_) hco hgen hk
  refine wpAny_mono (h _ s.heap.objs.size h₁ FG ⟨hns, fun b o e => hk₁ b o (of_hideAll _ e), Nat.le_of_eq (hideAll_size _ _)⟩
    (fun p hp => ⟨hk₁ _ _ (N p hp).1, Nat.ne_of_lt (Heap.lt_size (N p hp).1), hideAll_none _ (List.mem_map_of_mem hp)⟩) BG (X₀.keeps st) (T.keeps st)) (fun fl s' hl => ?_) fun _ _ y => y
  obtain ⟨g', L', m', news', T', F', N', k⟩ := hl
  have FT := turn_fr FG T'
  refine k ⟨FT.ns.keeps F'.keep, fun b o e => F'.keep b o (turn_stays FG T' b o e), FG.above⟩ fun p hp => ⟨(N' p hp).1, fun q => ?_, ?_⟩
  · obtain ⟨oL, _, _, hL, _⟩ := FT.ns
    have := (N' p hp).2.2; rw [q, hL] at this; cases this
  · cases q : h₀.get? p.1 with
    | none => rfl
    | some o => have := (N' p hp).2.2; rw [turn_stays FG T' _ _ q] at this; cases this
end
end Mine
end

section
open PySem PySem.W PyProof.Rows PySem.Calls PySem.Spec
set_option maxRecDepth 100000
namespace Mine
/-- a DesignError was made and may fly -/
noncomputable def DRaise (w : World) (E : Value → Shared → Prop) (v : Value) (s₁ : Shared) : Prop :=
  ∃ e D vs sl, v = .ref e ∧ (hd.heap_1_39 w.params).In s₁.heap ∧ s₁.heap.get? e = some ⟨.ref 45, some D, .fields vs, sl⟩ ∧ vs[1]? = some .none ∧ E (.ref e) s₁
section
variable {prog : Program} {w : World} {A : Around} {E : Value → Shared → Prop} {s : Shared} {env : Env}
theorem raiseStmtD {x : Sem Value} {Q : Flow → Shared → Prop} (hh : A.handled = none)
    (h : wpAny (model prog w) A x (DRaise w E) E s) :
    wpAny (model prog w) A (raiseStmt env (some x) none) Q E s := by
  have hcB : (Value.ref 45 :: bmD).contains (.type "BaseException") = true := by decide +kernel
  unfold raiseStmt
  refine wpAny_bind (wpAny_mono h (fun v s₁ h₁ => ?_) fun _ _ x => x)
  obtain ⟨e, D, vs, sl, rfl, X, he, hv, hE⟩ := h₁
  obtain ⟨nm, q, Na, bs, sn, sub, ab, col, dd, k0, k1, k2, k3, k5, eC⟩ := clsD w.params
  have hC := X _ _ eC
  obtain ⟨hp, g, d, tk, os⟩ := s₁
  repeat (first | with_reducible refine wpAny_loadPart_at he ?_ | with_reducible refine wpAny_loadPart_at hC ?_ | (with_reducible refine wpAny_isSubtype_exc hC ?_; rw [hcB]) | with_reducible refine wpAny_field he rfl hv ?_ | wp_step)
  exact wpAny_raiseNew_none hh hE
theorem RaiseDE {f : Expr} {args : List Expr} {kws : List Keyword} {cpos pos : Pos} {Q : Flow → Shared → Prop} (hh : A.handled = none)
    (h : wpAny (model prog w) A (eval (.Call f args kws cpos) env) (DRaise w E) E s) :
    wpAny (model prog w) A (exec (.Raise (some (.Call f args kws cpos)) none pos) env) Q E s := by
  rw [arm_exec_Raise]
  exact wpAny_bind (wpAny_standAt (raiseStmtD hh (wpAny_bind (wpAny_mono h (fun v s₁ h₁ => wpAny_bind (wpAny_standAt (wpAny_pure h₁))) fun _ _ e => e))))
end
noncomputable def lsw : Bool → Str
  | true => Str.ofString "local"
  | false => Str.ofString "sig"
theorem newsSwap {h₀ h : Heap} {L : Addr} {p q : Addr × Obj} {l : Led} (N : News h₀ L h (p :: q :: l)) : News h₀ L h (q :: p :: l) := newsSub N fun x hx => by
  rcases List.mem_cons.mp hx with rfl | hx
  · exact .tail _ (.head _)
  · rcases List.mem_cons.mp hx with rfl | hx
    · exact .head _
    · exact .tail _ (.tail _ hx)
/-- the parts of a target: local or not -/
inductive PartsAt (news : Led) : List Value → List Bool → Prop
  | nil : PartsAt news [] []
  | cons {p : Addr} {b : Bool} {t : Tok} {rest vs : List Value} {bs : List Bool} : (p, tup (.str (lsw b) t :: rest)) ∈ news → PartsAt news vs bs → PartsAt news (.ref p :: vs) (b :: bs)
theorem PartsAt.get {news : Led} {vs : List Value} {bs : List Bool} (h : PartsAt news vs bs) : ∀ (i : Nat) v, vs[i]? = some v → ∃ (p : Addr) (b : Bool) (t : Tok) (rest : List Value), v = .ref p ∧ bs[i]? = some b ∧ (p, tup (.str (lsw b) t :: rest)) ∈ news := by
  induction h with
  | nil => intro i v h; simp at h
  | @cons p b t rest vs bs h1 h2 ih =>
    intro i v h
    cases i with
    | zero => simp at h; exact ⟨p, b, t, rest, h.symm, rfl, h1⟩
    | succ i => exact ih i v (by simpa using h)
theorem PartsAt.length {news : Led} {vs : List Value} {bs : List Bool} (h : PartsAt news vs bs) : vs.length = bs.length := by
  induction h with
  | nil => rfl
  | cons _ _ ih => simp [ih]
/-- the dict of the error that check_nonblocking raises -/
noncomputable def excEs (p : Params) (k1 k2 k3 t1 t2 t3 : Tok) : List DictEntry := [⟨PyData.keyHash p (Str.ofString "kind"), .str (Str.ofString "kind") k1, .str (Str.ofString "nba_to_local") t1⟩, ⟨PyData.keyHash p (Str.ofString "at"), .str (Str.ofString "at") k2, .int 44 t2⟩, ⟨PyData.keyHash p (Str.ofString "detail"), .str (Str.ofString "detail") k3, .str (Str.ofString "") t3⟩]
set_option maxHeartbeats 4000000 in
theorem check_use {prog : Program} {w : World} {mean : ExcName → Option Value} {mg mb : Str → Option Value} {g pt : Addr} {vs : List Value} {bs : List Bool} {i : Int} {t1 t2 t3 : Tok} {news : Led}
    {dp u : Nat} {gd : Option (List Code)} {cn : Str} {cs : Scope} {a : Addr} {ccd : Value} {cl : List (Str × Addr)} {outer : List Env} {A₀ : Around} {base h₀ : Heap} {L : Addr} {m : Str → Option Value} {s : Shared} {Q E : Value → Shared → Prop}
    (B : Below A₀ base outer h₀) (F : Fr h₀ L s.heap m) (X : (hd.heap_1_39 w.params).In h₀) (N : News h₀ L s.heap news) (T : Top hd.view_1_40 (looseW hd.view_1_40 [Str.ofString "GateloomError"]) mean mg mb h₀) (hk : cs.kind = .function)
    (hg : (g, tup [.str (Str.ofString "lv") t1, .int i t2, .ref pt]) ∈ news) (hp : (pt, tup vs) ∈ news) (hb : PartsAt news vs bs) (hd : dp + 15 < recursionLimit) (hu : u + 400 < cLine)
    (hret : bs.any id = false → ∀ h' tk', Fr h₀ L h' m → News h₀ L h' news → Q .none { s with heap := h', toks := tk' })
    (hraise : bs.any id = true → ∀ g' e D k1 k2 k3 t4 t5 t6 rest h' tk', Fr h₀ L g' m → (∀ p ∈ news, p ∈ rest) → RaisedD base g' (envX cn cs L a ccd cl :: outer) e D ((D, dictOf (excEs w.params k1 k2 k3 t4 t5 t6) 3) :: rest) h' → g'.UpToSlots h' → E (.ref e) { s with heap := h', toks := tk' }) :
    wpAny (model prog w) (ktrTop dp u gd cn cs L a ccd cl outer) (call (.ref 75) [.ref g, .int 44 t3]) Q E s := by
  w_top off
  k_with_none
  (k_with "nepick" => (first | (refine Nat.ne_of_lt ?_; first | exact Mine.pl_0 (by with_reducible assumption) | exact Mine.pl_1 (by with_reducible assumption) | exact Mine.pl_2 (by with_reducible assumption) | exact Mine.pl_3 (by with_reducible assumption) | exact Mine.pl_4 (by with_reducible assumption) | exact Mine.pl_5 (by with_reducible assumption) | exact Mine.pl_6 (by with_reducible assumption) | exact Mine.pl_7 (by with_reducible assumption) | exact Mine.pl_8 (by with_reducible assumption) | exact Mine.pl_9 (by with_reducible assumption) | exact Mine.pl_10 (by with_reducible assumption) | exact Mine.pl_11 (by with_reducible assumption) | exact Mine.pl_12 (by with_reducible assumption) | exact Mine.pl_13 (by with_reducible assumption) | exact Mine.pl_14 (by with_reducible assumption) | exact Mine.pl_15 (by with_reducible assumption) | exact Mine.pl_16 (by with_reducible assumption) | (refine Nat.lt_succ_of_lt ?_; first | exact Mine.pl_0 (by with_reducible assumption) | exact Mine.pl_1 (by with_reducible assumption) | exact Mine.pl_2 (by with_reducible assumption) | (refine Nat.lt_succ_of_lt ?_; first | exact Mine.pl_0 (by with_reducible assumption) | exact Mine.pl_1 (by with_reducible assumption) | exact Mine.pl_2 (by with_reducible assumption) | (refine Nat.lt_succ_of_lt ?_; first | exact Mine.pl_0 (by with_reducible assumption) | exact Mine.pl_1 (by with_reducible assumption) | exact Mine.pl_2 (by with_reducible assumption) | (refine Nat.lt_succ_of_lt ?_; first | exact Mine.pl_0 (by with_reducible assumption) | exact Mine.pl_1 (by with_reducible assumption) | exact Mine.pl_2 (by with_reducible assumption) | (refine Nat.lt_succ_of_lt ?_; first | exact Mine.pl_0 (by with_reducible assumption) | exact Mine.pl_1 (by with_reducible assumption) | exact Mine.pl_2 (by with_reducible assumption))))))) | (refine Ne.symm (Nat.ne_of_lt ?_); first | exact Mine.pl_0 (by with_reducible assumption) | exact Mine.pl_1 (by with_reducible assumption) | exact Mine.pl_2 (by with_reducible assumption) | exact Mine.pl_3 (by with_reducible assumption) | exact Mine.pl_4 (by with_reducible assumption) | exact Mine.pl_5 (by with_reducible assumption) | exact Mine.pl_6 (by with_reducible assumption) | exact Mine.pl_7 (by with_reducible assumption) | exact Mine.pl_8 (by with_reducible assumption) | exact Mine.pl_9 (by with_reducible assumption) | exact Mine.pl_10 (by with_reducible assumption) | exact Mine.pl_11 (by with_reducible assumption) | exact Mine.pl_12 (by with_reducible assumption) | exact Mine.pl_13 (by with_reducible assumption) | exact Mine.pl_14 (by with_reducible assumption) | exact Mine.pl_15 (by with_reducible assumption) | exact Mine.pl_16 (by with_reducible assumption))))
  (k_with "@units_room" => (have hcL' := cLine_is; simp only [units_in1, units_deeper, Around.mark_units]; dsimp only [ktrTop]; omega))
  (k_with "@k_all" => assumption)
  (k_with "@k_ne" => (refine neN ?_; (try dsimp only); first | with_reducible assumption | (refine Ne.symm ?_; with_reducible assumption) | k_extra "nepick"))
  (k_with "@k_mem" => (refine List.mem_cons_of_mem _ ?_; k_mem))
  (k_with "subscriptTail" => (k_here; (with_reducible show wpAny _ _ (subscriptTail _ _ (Value.ref _) (Value.int _ _)) _ _ _); k_dflt (refine' my_tup (by k_asm) (by k_mem) (by decide) (by decide) ?hxZq ?_; (case hxZq => exact rfl)); (try dsimp only)))
  (k_with "pyIter ref" => (refine Blk.mk ?_))
  (k_with "exec For" => (k_here; (rename Fr _ _ _ _ => lFpZq); (with_unfolding_all refine' For_invVF lFpZq ?k1Zq ?k2Zq ?_; (case k1Zq => exact rfl); (case k2Zq => exact rfl); k_whole)))
  (k_with "exec Raise some none" => (k_here; k_dflt (refine RaiseDE rfl ?_)))
  (k_with "setAttr ref" => (k_here; k_dflt (refine' set_firstD ?FZq ?XZq ?NZq ?h2Zq ?haZq ?_; (case FZq => k_asm); (case XZq => k_asm); (case NZq => k_asm); (case h2Zq => assumption); (case haZq => k_is)); intro _ _ _ _ _ hespZq _ _ _ _; subst hespZq; (try dsimp only)))
  (k_with "setAttr ref" => (k_here; k_dflt (refine' set_nextD ?FZq ?XZq ?NZq ?h2Zq ?h3Zq ?haZq ?hnZq ?hrZq ?zZq ?_; (case FZq => k_asm); (case XZq => k_asm); (case NZq => k_asm); (case h2Zq => assumption); (case h3Zq => assumption); (case haZq => k_is); (case hnZq => rfl); (case hrZq => rfl); (case zZq => exact Nat.le_of_ble_eq_true rfl)); intro _ _ _ _ NpZq; (simp only [List.cons_append, List.nil_append] at NpZq); (try dsimp only)))
  refine wpAny_call ?_
  k_dflt ktr_enter
  rename Fr _ _ _ (fun y => List.lookup y _) => F9
  replace F9 : Fr _ _ _ (fun y => ([(Str.ofString "at", .int 44 t3), (Str.ofString "lv", .ref g)] : List (Str × Value)).lookup y) := F9
  k_steps
  refine Blk.out ?_
  rename Fr _ _ _ (fun y => List.lookup y _) => F9
  rename News _ _ _ _ => N9
  refine tup_iter (vs := vs) (J := fun i m' nx => nx = news ∧ (bs.take i).any id = false ∧ ∃ u : Str → Option Value, m' = fun z => if [Str.ofString "part"].contains z then u z else List.lookup z [(Str.ofString "at", Value.int 44 t3), (Str.ofString "lv", Value.ref g)]) rfl hp F9 N9 ?_ ?_ ?_
  · exact ⟨rfl, rfl, st_end fun _ _ => rfl⟩
  · rintro i v m₁ nx h tk own hv ho _ ⟨rfl, hi, u, rfl⟩ F₁ N₁
    obtain ⟨p, b, t, rest, rfl, hbi, hpm⟩ := hb.get i v hv
    have ht : bs.take (i + 1) = bs.take i ++ [b] := by rw [List.take_add_one, hbi]; rfl
    cases b with
    | false =>
      replace hpm : (p, tup (.str (Str.ofString "sig") t :: rest)) ∈ nx := hpm
      k_steps
      rename News _ _ _ (_ ++ _) => N8
      rename Fr _ _ _ (fun y => if y = _ then _ else _) => F8
      refine InvEndG.intro F8 N8 ⟨hp, rfl, ?_, st_end fun z hz => ?_⟩ ho (fun p hp => List.mem_append.mpr (.inl hp)) (fun p hp => List.mem_append.mpr (.inr hp))
      · rw [ht, List.any_append, hi]; rfl
      · simp at hz
        simp [hz]
    | true =>
      replace hpm : (p, tup (.str (Str.ofString "local") t :: rest)) ∈ nx := hpm
      have hany : bs.any id = true := List.any_eq_true.mpr ⟨true, List.mem_of_getElem? hbi, rfl⟩
      k_steps
      rename News _ _ _ (_ ++ _) => N8
      rename Fr _ _ _ (fun y => if y = _ then _ else _) => F8
      k_dflt (refine wpAny_call (makeD F8 (Frag.In.keeps (by k_asm) F8.keep) N8 (Nat.le_of_ble_eq_true rfl) ?_))
      intro x₂ t₂ h₂ F2 N2 hx2
      k_dflt (refine' code_def ?k1 ?k2 ?k3 ?k4 ?k5 ?kA ?kF ?kK ?k6 ?k7 ?k8 ?k9 ?kB ?_ ?c2 ?c3 ?c4 ?c5; (case kA => exact rfl); (case kF => exact rfl); (case kK => exact rfl); (case k1 => k_asm); (case k2 => k_asm); (case k3 => k_asm); (case k4 => k_asm); (case k5 => k_asm); (case k6 => k_is); (case k7 => k_is); (case k8 => ktr_room); (case k9 => exact binds_K (by k_in) rfl (by k_is) rfl rfl rfl); (case c5 => decide); (case kB => exact locs rfl); (case c2 => exact rfl); (case c3 => exact rfl); (case c4 => exact rfl); k_whole; intro g' L' h' FG' F' N' B' X' T'; (try dsimp only); (try k_fold))
      replace F' : Fr g' L' h' (fun y => ([(Str.ofString "detail", .str (Str.ofString "") 203), (Str.ofString "at", .int 44 t3), (Str.ofString "kind", .str (Str.ofString "nba_to_local") _), (Str.ofString "self", .ref x₂)] : List (Str × Value)).lookup y) := F'
      k_steps
      rename News _ _ _ ((_, dictOf [_, _, _] _) :: (_, _) :: (_, _) :: (nx ++ own)) => N7
      rename Fr _ _ _ (fun y => if y = _ then _ else _) => F7
      rename (∀ p ∈ (_, _) :: (nx ++ own), p.1 ≠ _) => hD7
      rename (@Ne Nat x₂ _) => hx7
      refine ⟨x₂, _, _, _, rfl, Frag.In.keeps (by k_asm) F7.keep, (N7 _ (.tail _ (.head _))).1, rfl, ?_⟩
      show wpAny _ _ (leaving _ _) _ _ _
      have N6 := newsSwap N7
      refine leaveD (by assumption) F7 N6 (fun p hp => ?_) rfl rfl fun h' R U => ?_
      · rcases List.mem_cons.mp hp with rfl | hp
        · exact Ne.symm hx7
        · exact hx2 p hp
      · exact hraise hany _ _ _ _ _ _ _ _ _ _ _ _ (by assumption) (fun p hp => .tail _ (List.mem_append.mpr (.inl hp))) R U
  · rintro m₁ nx h tk ⟨rfl, hi, u, rfl⟩ F₁ N₁
    have e : bs.take vs.length = bs := by rw [hb.length, List.take_length]
    rw [e] at hi
    have hret := hret hi
    k_steps
    rename News h₀ L _ _ => kN9
    rename Fr h₀ L _ _ => kF9
    exact hret _ _ kF9 kN9
end Mine
end

section
open PySem PySem.W PyProof.Rows PySem.Calls PySem.Spec
set_option maxRecDepth 100000
namespace Mine
section
variable {prog : Program} {w : World} {A : Around} {E : Value → Shared → Prop} {s : Shared} {env : Env} {h₀ : Heap} {x : Str} {body : List Stmt} {Q : Flow → Shared → Prop}
end
end Mine
end

section
open PySem PySem.W PyProof.Rows PySem.Calls PySem.Spec
set_option maxRecDepth 100000
namespace Mine
theorem entry_unchain : entryFor table "proto.unchain" = some Builtin.«proto.unchain» := entryFor_of_fast (by kernel_rfl)
theorem plain_unchain : plainId "proto.unchain" = true := by decide +kernel
section
variable {prog : Program} {w : World} {A : Around} {E : Value → Shared → Prop} {s : Shared}
/-- a StopIteration is raised while a fault is handled whose context is none -/
theorem stopH {α : Type} {e : Addr} {oe : Obj} {vs : Array Value} {Q : α → Shared → Prop} (hh : A.handled = some (.ref e)) (he : s.heap.get? e = some oe) (hd : oe.data = .fields vs) (h2 : vs[2]? = some .none)
    (hE : ∀ x h', (∀ b o, s.heap.get? b = some o → h'.get? b = some o) → ({ s with heap := h' } : Shared).TypeIs (.ref x) "StopIteration" → E (.ref x) { s with heap := h' }) :
    wpAny (model prog w) A (newExc (.type "StopIteration") [] >>= fun e => raiseNew e) Q E s := by
  refine wpAny_bind ?_
  simp only [newExc, newTuple]
  refine wpAny_bind (wpAny_newObj_type ?_ (by size_fits))
  refine wpAny_bind (m := firstArgMember _ _) (wpAny_of_eq (a := Value.none) (by first | rfl | (simp only [firstArgMember]; rfl)) ?_)
  refine wpAny_newObj_type ?_ (by size_fits)
  simp only [raiseNew]
  refine wpAny_bind (wpAny_handled ?_)
  rw [hh]
  have hlt : e < s.heap.objs.size := Heap.lt_size he
  have hne : ((Value.ref e != Value.ref (s.heap.push { cls := .type "tuple", data := .seq #[] }).objs.size) = true) := by
    rw [Heap.size_push]
    simp only [bne_iff_ne, ne_eq, Value.ref.injEq]
    exact Nat.ne_of_lt (Nat.lt_succ_of_lt hlt)
  dsimp only
  rw [if_pos hne]
  generalize hx : (s.heap.push { cls := Value.type "tuple", data := Data.seq #[] }).objs.size = x₁
  have hox : (((s.heap.push { cls := Value.type "tuple", data := Data.seq #[] }).push { cls := Value.type "StopIteration", data := Data.fields (#[Value.ref s.heap.objs.size, Value.none, Value.none, Value.none, Value.bool false, Value.none] ++ ownMembersOf (Value.type "StopIteration") []) })).get? x₁ = some { cls := Value.type "StopIteration", data := Data.fields (#[Value.ref s.heap.objs.size, Value.none, Value.none, Value.none, Value.bool false, Value.none] ++ ownMembersOf (Value.type "StopIteration") []) } := by
    rw [← hx]; exact Heap.get?_push_size _ rfl
  have he2 := Heap.get?_push_of_some (h := s.heap.push { cls := Value.type "tuple", data := Data.seq #[] }) { cls := Value.type "StopIteration", data := Data.fields (#[Value.ref s.heap.objs.size, Value.none, Value.none, Value.none, Value.bool false, Value.none] ++ ownMembersOf (Value.type "StopIteration") []) } (Heap.get?_push_of_some (h := s.heap) { cls := Value.type "tuple", data := Data.seq #[] } he)
  refine wpAny_bind (wpAny_holding (wpAny_runValue (codeAny_builtin entry_unchain ?_)))
  rw [Around.under_plainId plain_unchain _]
  unfold Builtin.«proto.unchain»
  refine wpAny_bind (wpAny_field he2 hd h2 ?_)
  rw [if_pos (by decide)]
  refine wpAny_pure ?_
  have hsz : 2 < (#[Value.ref s.heap.objs.size, Value.none, Value.none, Value.none, Value.bool false, Value.none] ++ ownMembersOf (Value.type "StopIteration") []).size := by
    rw [Array.size_append]
    exact Nat.lt_of_lt_of_le (by decide : 2 < 6) (Nat.le_add_right _ _)
  refine wpAny_bind (m := setField (.ref x₁) 2 (.ref e)) (wpAny_setField hox rfl hsz ?_)
  refine wpAny_throw (hE _ _ (fun b o hb => ?_) ⟨_, Heap.get?_update_self _ hox rfl, rfl⟩)
  have hb1 : b < s.heap.objs.size := Heap.lt_size hb
  rw [Heap.get?_update_other _ _ (by rw [← hx, Heap.size_push]; exact Nat.ne_of_gt (Nat.lt_succ_of_lt hb1))]
  exact Heap.get?_push_of_some _ (Heap.get?_push_of_some _ hb)
/-- the end of a range while a fault is handled whose context is none -/
theorem range_endH {e it : Addr} {oe : Obj} {vs : Array Value} {x left step : Int} {Q : Option Value → Shared → Prop} (hh : A.handled = some (.ref e)) (he : s.heap.get? e = some oe) (hd : oe.data = .fields vs) (h2 : vs[2]? = some .none)
    (hit : IsRangeIter s.heap it x left step) (hleft : left ≤ 0)
    (hQ : ∀ h', (∀ b o, s.heap.get? b = some o → h'.get? b = some o) → Q none { s with heap := h' }) : wpAny (model prog w) A (pyNext (.ref it)) Q E s := by
  have hT : s.TypeIs (.ref it) "range_iterator" := ⟨_, hit, rfl⟩
  unfold pyNext
  refine wpAny_bind (wpAny_attempt (wpAny_callSpecial?_slot (name := Str.ofString "__next__") hT PySem.F.slot_range_iterator_next
    (wpAny_call_entry PySem.F.slot_range_iterator_next hT PySem.F.entry_range_iterator_next ?_ (PySem.F.args_range_iterator_next_1 _))))
  show wpAny _ _ (field (.ref it) 0 >>= _) _ _ s
  refine wpAny_bind (wpAny_field hit rfl (x := rawInt x) rfl ?_)
  show wpAny _ _ (field (.ref it) 1 >>= _) _ _ s
  refine wpAny_bind (wpAny_field hit rfl (x := rawInt left) rfl ?_)
  show wpAny _ _ (field (.ref it) 2 >>= _) _ _ s
  refine wpAny_bind (wpAny_field hit rfl (x := rawInt step) rfl ?_)
  show wpAny _ _ (if left ≤ 0 then _ else _) _ _ s
  rw [if_pos hleft]
  refine wpAny_bind (wpAny_rule (wpAny_bind (stopH (A := A.in1) hh he hd h2 fun x h' hk hT' => ?_)))
  exact wpAny_bind (wpAny_isInstance (T := "StopIteration") (b := true) hT' isSubtype_stop (wpAny_pure (hQ h' hk)))
theorem tuple_endH {e it t : Addr} {oe : Obj} {vs items : Array Value} {i : Nat} {Q : Option Value → Shared → Prop} (hh : A.handled = some (.ref e)) (he : s.heap.get? e = some oe) (hd9 : oe.data = .fields vs) (h2 : vs[2]? = some .none) (hne : e ≠ it)
    (hit : s.heap.IsTupleIter it t i) (ht : s.heap.IsTuple t items) (hx : items[i]? = none)
    (hQ : ∀ h', (∀ b o, b ≠ it → s.heap.get? b = some o → h'.get? b = some o) → Q none { s with heap := h' }) : wpAny (model prog w) A (pyNext (.ref it)) Q E s := by
  obtain ⟨o, ho, hc, hd⟩ := id hit
  obtain ⟨ol, hol, _, nl, hdl⟩ := ht
  unfold pyNext
  refine wpAny_bind (wpAny_attempt (wpAny_callSpecial?_slot (name := Str.ofString "__next__") hit.typeIs PySem.F.slot_tuple_iterator_next
    (wpAny_call_entry PySem.F.slot_tuple_iterator_next hit.typeIs PySem.F.entry_tuple_iterator_next ?_ (PySem.F.args_tuple_iterator_next_1 _))))
  show wpAny _ _ (field (.ref it) 0 >>= _) _ _ s
  refine wpAny_bind (wpAny_field ho hd (x := .ref t) rfl ?_)
  show wpAny _ _ (if (Value.ref t == Value.none) = true then _ else _) _ _ s
  rw [if_neg (show ¬ ((Value.ref t == Value.none) = true) from Bool.false_ne_true)]
  show wpAny _ _ (field (.ref it) 1 >>= _) _ _ s
  refine wpAny_bind (wpAny_field ho hd (x := .int i 0) rfl ?_)
  show wpAny _ _ (seqItems? (.ref t) >>= _) _ _ s
  refine wpAny_bind (wpAny_seqItems hol hdl ?_)
  simp only [Int.toNat_natCast, hx]
  have oth : ∀ b o', b ≠ it → s.heap.get? b = some o' → (s.heap.update it (Obj.mapFields (·.setIfInBounds 0 Value.none))).get? b = some o' := fun b o' hb e => (Heap.get?_update_other _ _ (Ne.symm hb)).trans e
  refine wpAny_bind (wpAny_rule (wpAny_bind (wpAny_setField ho hd (by simp) ?_)))
  refine stopH (A := A.in1) (s := { s with heap := s.heap.update it (Obj.mapFields (·.setIfInBounds 0 Value.none)) }) hh (oth _ _ hne he) hd9 h2 fun x h' hk hT' => ?_
  exact wpAny_bind (wpAny_isInstance (T := "StopIteration") (b := true) hT' isSubtype_stop (wpAny_pure (hQ h' fun b o' hb e => hk b o' (oth b o' hb e))))
theorem walksTupH {e : Addr} (hh : A.handled = some (.ref e)) (I ax : Addr) (hne : ax ≠ I) (hne2 : e ≠ I) (items : Array Value) {oe : Obj} {vs : Array Value} (hd : oe.data = .fields vs) (h2 : vs[2]? = some .none) :
    Walks prog w A I [I, ax, e] [I] items.size (fun i v => items[i]? = some v) (fun i h => (h.IsTupleIter I ax i ∧ h.IsTuple ax items) ∧ h.get? e = some oe) where
  sub := fun b hb => by rw [List.mem_singleton.mp hb]; exact .head _
  frame := fun _ _ _ st hk => ⟨⟨st.1.1.at (hk I (by simp)), let ⟨o, ho, r⟩ := st.1.2; ⟨o, hk ax (by simp) _ ho, r⟩⟩, hk e (by simp) _ st.2⟩
  item := fun i s Q E hi st hQ => by
    obtain ⟨x, hx⟩ : ∃ x, items[i]? = some x := ⟨_, Array.getElem?_eq_getElem hi⟩
    refine wpAny_pyNext_tuple_item st.1.1 st.1.2 hx fun h' hit' hs' => ?_
    refine hQ _ h' _ hx ⟨⟨hit', let ⟨o, ho, r⟩ := st.1.2; ⟨o, hs'.extBut ax _ hne ho, r⟩⟩, hs'.extBut e _ hne2 st.2⟩ fun b o hb e => hs'.extBut b o (fun h => hb (by simp [h])) e
  done := fun s Q E st hQ => tuple_endH hh st.2 hd h2 hne2 st.1.1 st.1.2 (by simp) fun h' he' => hQ h' s.toks fun b o hb e => he' b o (fun h => hb (by simp [h])) e
  self := fun _ _ _ _ st hQ => wpAny_pyIter_tupleiter st.1.1 hQ
theorem walksRangeH {e : Addr} (hh : A.handled = some (.ref e)) (I : Addr) (hne : e ≠ I) (n : Nat) {oe : Obj} {vs : Array Value} (hd : oe.data = .fields vs) (h2 : vs[2]? = some .none) :
    Walks prog w A I [I, e] [I] n (fun i v => i < n ∧ ∃ t, v = .int (i : Nat) t) (fun i h => IsRangeIter h I (i : Nat) ((n : Int) - (i : Nat)) 1 ∧ h.get? e = some oe) where
  sub := fun b hb => by rw [List.mem_singleton.mp hb]; exact .head _
  frame := fun _ _ _ st hk => ⟨hk I (by simp) _ st.1, hk e (by simp) _ st.2⟩
  item := fun i s Q E hi st hQ => by
    refine wpAny_pyNext_range_item st.1 (by omega) fun h' hit' hs' => ?_
    refine hQ _ h' _ ⟨hi, _, rfl⟩ ⟨?_, hs'.extBut e _ hne st.2⟩ fun b o hb e => hs'.extBut b o (fun h => hb (by simp [h])) e
    have e2 : (n : Int) - ((i + 1 : Nat) : Int) = (n : Int) - (i : Int) - 1 := by push_cast; omega
    rw [e2]; exact hit'
  done := fun s Q E st hQ => range_endH hh st.2 hd h2 st.1 (by omega) fun h' he' => hQ h' s.toks fun b o hb e => he' b o e
  self := fun _ _ _ _ st hQ => wpAny_pyIter_rangeiter st.1 hQ
theorem minH {e : Addr} {oe : Obj} {vs : Array Value} {a b : Int} {t u : Tok} {Q : Value → Shared → Prop} (hh : A.handled = some (.ref e)) (he : s.heap.get? e = some oe) (hd : oe.data = .fields vs) (h2 : vs[2]? = some .none)
    (h : ∀ h' tk, (∀ c o, s.heap.get? c = some o → h'.get? c = some o) → Q (if b < a then .int b u else .int a t) { s with heap := h', toks := tk }) :
    wpAny (model prog w) A (call (.builtin "min") [.int a t, .int b u]) Q E s := by
  have hT : (s.heap.push { cls := .type "tuple", data := .seq #[.int a t, .int b u] }).IsTuple s.heap.objs.size (intItems #[(a, t), (b, u)]) := ⟨_, Heap.get?_push_size _ rfl, rfl, 0, by simp [intItems]⟩
  refine call_min_two (wpAny_pyIter_tuple hT ?_)
  have hsz : (s.heap.push { cls := .type "tuple", data := .seq #[.int a t, .int b u] }).objs.size = s.heap.objs.size + 1 := Heap.size_push ..
  have hlt : e < s.heap.objs.size := Heap.lt_size he
  refine ⟨_, [_, s.heap.objs.size, e], [_], _, _, _, _, rfl, walksTupH (A := A.in1) hh _ s.heap.objs.size (by rw [hsz]; exact Nat.ne_of_lt (Nat.lt_succ_self _)) (by rw [hsz]; exact Nat.ne_of_lt (Nat.lt_succ_of_lt hlt)) (intItems #[(a, t), (b, u)]) hd h2,
    ⟨⟨⟨_, Heap.get?_push_size _ rfl, rfl, rfl⟩, hT.push _⟩, Heap.get?_push_of_some _ (Heap.get?_push_of_some _ he)⟩, fun c hc => ?_, by simp [intItems], CmpOf.ints_lt (numAt #[(a, t), (b, u)]) (fun _ _ => intItems_at), fun v h' tk hP hk => ?_⟩
  · show c < ((s.heap.push _).push _).objs.size
    rw [Heap.size_push, hsz]
    rcases List.mem_cons.mp hc with rfl | hc
    · rw [hsz]; exact Nat.lt_succ_self _
    · rcases List.mem_cons.mp hc with rfl | hc
      · exact Nat.lt_succ_of_lt (Nat.lt_succ_self _)
      · rw [List.mem_singleton.mp hc]
        exact Nat.lt_succ_of_lt (Nat.lt_succ_of_lt hlt)
  · have hold : ∀ c o, s.heap.get? c = some o → h'.get? c = some o := fun c o e => by
      refine hk c o (fun hm => ?_) (Heap.get?_push_of_some _ (Heap.get?_push_of_some _ e))
      rcases List.mem_cons.mp hm with e1 | hm
      · have := Heap.lt_size e; rw [e1, hsz] at this; exact Nat.lt_irrefl _ (Nat.lt_of_succ_lt this)
      · cases hm
    have := h h' tk hold
    have hv : v = if b < a then Value.int b u else Value.int a t := by
      have hP' : (intItems #[(a, t), (b, u)])[argBest (fun i j => decide (numAt #[(a, t), (b, u)] i < numAt #[(a, t), (b, u)] j)) 1]? = some v := by
        have hsz2 : (intItems #[(a, t), (b, u)]).size - 1 = 1 := by simp [intItems]
        rw [← hsz2]; exact hP
      by_cases hba : b < a
      · have e : argBest (fun i j => decide (numAt #[(a, t), (b, u)] i < numAt #[(a, t), (b, u)] j)) 1 = 1 := by simp [argBest, numAt, hba]
        rw [e] at hP'
        simpa [intItems, hba] using hP'.symm
      · have e : argBest (fun i j => decide (numAt #[(a, t), (b, u)] i < numAt #[(a, t), (b, u)] j)) 1 = 0 := by simp [argBest, numAt, hba]
        rw [e] at hP'
        simpa [intItems, hba] using hP'.symm
    rw [hv]; exact this
theorem maxH {e : Addr} {oe : Obj} {vs : Array Value} {a b : Int} {t u : Tok} {Q : Value → Shared → Prop} (hh : A.handled = some (.ref e)) (he : s.heap.get? e = some oe) (hd : oe.data = .fields vs) (h2 : vs[2]? = some .none)
    (h : ∀ h' tk, (∀ c o, s.heap.get? c = some o → h'.get? c = some o) → Q (if b > a then .int b u else .int a t) { s with heap := h', toks := tk }) :
    wpAny (model prog w) A (call (.builtin "max") [.int a t, .int b u]) Q E s := by
  have hT : (s.heap.push { cls := .type "tuple", data := .seq #[.int a t, .int b u] }).IsTuple s.heap.objs.size (intItems #[(a, t), (b, u)]) := ⟨_, Heap.get?_push_size _ rfl, rfl, 0, by simp [intItems]⟩
  refine call_max_two (wpAny_pyIter_tuple hT ?_)
  have hsz : (s.heap.push { cls := .type "tuple", data := .seq #[.int a t, .int b u] }).objs.size = s.heap.objs.size + 1 := Heap.size_push ..
  have hlt : e < s.heap.objs.size := Heap.lt_size he
  refine ⟨_, [_, s.heap.objs.size, e], [_], _, _, _, _, rfl, walksTupH (A := A.in1) hh _ s.heap.objs.size (by rw [hsz]; exact Nat.ne_of_lt (Nat.lt_succ_self _)) (by rw [hsz]; exact Nat.ne_of_lt (Nat.lt_succ_of_lt hlt)) (intItems #[(a, t), (b, u)]) hd h2,
    ⟨⟨⟨_, Heap.get?_push_size _ rfl, rfl, rfl⟩, hT.push _⟩, Heap.get?_push_of_some _ (Heap.get?_push_of_some _ he)⟩, fun c hc => ?_, by simp [intItems], CmpOf.ints_gt (numAt #[(a, t), (b, u)]) (fun _ _ => intItems_at), fun v h' tk hP hk => ?_⟩
  · show c < ((s.heap.push _).push _).objs.size
    rw [Heap.size_push, hsz]
    rcases List.mem_cons.mp hc with rfl | hc
    · rw [hsz]; exact Nat.lt_succ_self _
    · rcases List.mem_cons.mp hc with rfl | hc
      · exact Nat.lt_succ_of_lt (Nat.lt_succ_self _)
      · rw [List.mem_singleton.mp hc]
        exact Nat.lt_succ_of_lt (Nat.lt_succ_of_lt hlt)
  · have hold : ∀ c o, s.heap.get? c = some o → h'.get? c = some o := fun c o e => by
      refine hk c o (fun hm => ?_) (Heap.get?_push_of_some _ (Heap.get?_push_of_some _ e))
      rcases List.mem_cons.mp hm with e1 | hm
      · have := Heap.lt_size e; rw [e1, hsz] at this; exact Nat.lt_irrefl _ (Nat.lt_of_succ_lt this)
      · cases hm
    have := h h' tk hold
    have hv : v = if b > a then Value.int b u else Value.int a t := by
      have hP' : (intItems #[(a, t), (b, u)])[argBest (fun i j => decide (numAt #[(a, t), (b, u)] i > numAt #[(a, t), (b, u)] j)) 1]? = some v := by
        have hsz2 : (intItems #[(a, t), (b, u)]).size - 1 = 1 := by simp [intItems]
        rw [← hsz2]; exact hP
      by_cases hba : b > a
      · have e : argBest (fun i j => decide (numAt #[(a, t), (b, u)] i > numAt #[(a, t), (b, u)] j)) 1 = 1 := by simp [argBest, numAt, hba]
        rw [e] at hP'
        simpa [intItems, hba] using hP'.symm
      · have e : argBest (fun i j => decide (numAt #[(a, t), (b, u)] i > numAt #[(a, t), (b, u)] j)) 1 = 0 := by simp [argBest, numAt, hba]
        rw [e] at hP'
        simpa [intItems, hba] using hP'.symm
    rw [hv]; exact this
theorem my_minH {h₀ : Heap} {L e : Addr} {m : Str → Option Value} {news : Led} {oe : Obj} {vs : Array Value} {a b : Int} {t u : Tok} {Q : Value → Shared → Prop} (hh : A.handled = some (.ref e)) (F : Fr h₀ L s.heap m) (N : News h₀ L s.heap news) (he : (e, oe) ∈ news) (hd : oe.data = .fields vs) (h2 : vs[2]? = some .none)
    (h : ∀ h' tk r, Fr h₀ L h' m → News h₀ L h' news → Q (.int (if b < a then b else a) r) { s with heap := h', toks := tk }) :
    wpAny (model prog w) A (call (.builtin "min") [.int a t, .int b u]) Q E s :=
  minH hh (N _ he).1 hd h2 fun h' tk hk => by
    by_cases c : b < a
    · have := h h' tk u (F.keeps hk) (N.grown hk)
      rw [if_pos c] at this ⊢; exact this
    · have := h h' tk t (F.keeps hk) (N.grown hk)
      rw [if_neg c] at this ⊢; exact this
theorem my_maxH {h₀ : Heap} {L e : Addr} {m : Str → Option Value} {news : Led} {oe : Obj} {vs : Array Value} {a b : Int} {t u : Tok} {Q : Value → Shared → Prop} (hh : A.handled = some (.ref e)) (F : Fr h₀ L s.heap m) (N : News h₀ L s.heap news) (he : (e, oe) ∈ news) (hd : oe.data = .fields vs) (h2 : vs[2]? = some .none)
    (h : ∀ h' tk r, Fr h₀ L h' m → News h₀ L h' news → Q (.int (if b > a then b else a) r) { s with heap := h', toks := tk }) :
    wpAny (model prog w) A (call (.builtin "max") [.int a t, .int b u]) Q E s :=
  maxH hh (N _ he).1 hd h2 fun h' tk hk => by
    by_cases c : b > a
    · have := h h' tk u (F.keeps hk) (N.grown hk)
      rw [if_pos c] at this ⊢; exact this
    · have := h h' tk t (F.keeps hk) (N.grown hk)
      rw [if_neg c] at this ⊢; exact this
/-- a tuple unpacked while a fault is handled -/
theorem unpackH {e t : Addr} {oe : Obj} {vs items : Array Value} {h₀ : Heap} {L : Addr} {m : Str → Option Value} {news : Led} {env : Env} {elts : List Expr} {x1 : Nat} {pos : Pos} {Q : Unit → Shared → Prop} (hh : A.handled = some (.ref e)) (F : Fr h₀ L s.heap m) (N : News h₀ L s.heap news)
    (he9 : (e, oe) ∈ news) (hd : oe.data = .fields vs) (h2 : vs[2]? = some .none) (ht : IsTup s.heap t items) (hn : (assignEach elts env).length = items.size) (hstar : (assignEach elts env).findIdx? (·.1) = none)
    (h : ∀ h', Fr h₀ L h' m → News h₀ L h' news → wpAny (model prog w) A (assignInOrder ((assignEach elts env).map (·.2)) items.toList) Q E { s with heap := h' }) :
    wpAny (model prog w) A (assign (.Tuple elts x1 pos) env (.ref t)) Q E s := by
  have he : s.heap.get? e = some oe := (N _ he9).1
  have ht : s.heap.IsTuple t items := ht
  rw [arm_assign_Tuple]
  refine wpAny_bind (wpAny_standAt ?_)
  unfold unpack
  rw [hn, hstar]
  refine wpAny_bind (wpAny_holding ?_)
  have hlt : t ≠ s.heap.objs.size := by obtain ⟨o, ho, _⟩ := ht; exact Nat.ne_of_lt (Heap.lt_size ho)
  have hle : e ≠ s.heap.objs.size := Nat.ne_of_lt (Heap.lt_size he)
  unfold unpackItems
  refine wpAny_bind ?_
  · unfold notIterableAtAll
    refine wpAny_bind (wpAny_specialOf ht.typeIs PySem.F.slot_tuple_iter.lookup ?_)
    refine wpAny_pure ?_
    simp only [Bool.false_eq_true, if_false]
    refine wpAny_bind (wpAny_holding (wpAny_pyIter_tuple ht ?_))
    refine wpAny_bind (wpAny_holding (wpAny_draw_tuple hlt items.size 0 _ _ ⟨_, Heap.get?_push_size _ rfl, rfl, rfl⟩ (ht.push _) (by omega) fun h₁ hit₁ hs₁ => ?_))
    have hall : List.take items.size (List.drop 0 items.toList) = items.toList := by
      rw [List.drop_zero]; exact List.take_of_length_le (by simp)
    rw [hall]
    rw [if_neg (by simp)]
    have k₁ : ∀ b o, b ≠ s.heap.objs.size → s.heap.get? b = some o → h₁.get? b = some o := fun b o hb q => hs₁.extBut b o hb (Heap.get?_push_of_some _ q)
    have ht₁ : h₁.IsTuple t items := let ⟨o, ho, r⟩ := ht; ⟨o, k₁ t o hlt ho, r⟩
    refine wpAny_bind (wpAny_holding (tuple_endH (items := items) (i := 0 + items.size) hh (k₁ e _ hle he) hd h2 hle hit₁ ht₁ (by simp) fun h₂ hk₂ => ?_))
    simp only [Option.isSome_none, Bool.false_eq_true, if_false]
    refine wpAny_pure (h h₂ ⟨?_, fun b o q => ?_, F.above⟩ fun p hp => ⟨?_, (N p hp).2⟩)
    · exact F.ns.extBut (fun b o hb q => hk₂ b o hb (k₁ b o hb q)) (Nat.ne_of_lt F.ns.lt)
    · have hb : b ≠ s.heap.objs.size := Nat.ne_of_lt (Heap.lt_size (F.keep b o q))
      exact hk₂ b o hb (k₁ b o hb (F.keep b o q))
    · have hb : p.1 ≠ s.heap.objs.size := Nat.ne_of_lt (Heap.lt_size (N p hp).1)
      exact hk₂ _ _ hb (k₁ _ _ hb (N p hp).1)
end
section
variable {prog : Program} {w : World} {A : Around} {E : Value → Shared → Prop} {s : Shared} {env : Env} {h₀ : Heap} {x : Str} {body : List Stmt} {Q : Flow → Shared → Prop}
set_option maxHeartbeats 3200000 in
/-- a for over range(n) while a fault of the ledger is handled -/
theorem rngH_iter {r e : Addr} {oe : Obj} {vs : Array Value} {b₀ : Int} {t₀ u₀ v₀ : Tok} {n : Nat} {m₀ : Str → Option Value} {news : Led} (J : Nat → (Str → Option Value) → Led → Prop)
    (hh : A.handled = some (.ref e)) (hl : (e, oe) ∈ news) (hd : oe.data = .fields vs) (h2 : vs[2]? = some .none) (hr : IsRange s.heap r 0 b₀ 1 t₀ u₀ v₀) (hb : b₀ = (n : Int)) (hn : n ≤ 1000) (F : Fr h₀ env.locals s.heap m₀) (N : News h₀ env.locals s.heap news) (hj : J 0 m₀ news)
    (turn : ∀ i t m₁ news₁ h tk own, i < n → OwnOff own (news₁.map (·.1)) → (e, oe) ∈ news₁ → J i m₁ news₁ → Fr h₀ env.locals h (fun y => if y = x then some (.int (i : Nat) t) else m₁ y) → News h₀ env.locals h (news₁ ++ own) →
      wpAny (model prog w) A (execs body env) (InvPostG h₀ env.locals (fun m' nx => (e, oe) ∈ nx ∧ J (i + 1) m' nx) own { s with heap := h, toks := tk } Q) E { s with heap := h, toks := tk })
    (done : ∀ m₁ news₁ h tk, J n m₁ news₁ → Fr h₀ env.locals h m₁ → News h₀ env.locals h news₁ → Q .next { s with heap := h, toks := tk }) :
    wpAny (model prog w) A (pyIter (.ref r)) (fun it s₂ => LoopAtV prog w A h₀ env x body Q E it s₂) E s := by
  subst hb
  have hol : s.heap.get? e = some oe := (N _ hl).1
  have hne : e ≠ s.heap.objs.size := Nat.ne_of_lt (Heap.lt_size hol)
  have hsz : Builtin.Range.rangeSize 0 (n : Int) 1 = (n : Int) := by
    unfold Builtin.Range.rangeSize
    simp
    omega
  have hf : ∀ k : Int, 0 ≤ k → k ≤ 1000 → Builtin.Range.rangeFitsLong k = true := by
    intro k h0 h1
    unfold Builtin.Range.rangeFitsLong
    simp only [Bool.and_eq_true, decide_eq_true_eq]
    omega
  have hsmall : Builtin.Range.small 0 (n : Int) 1 = true := by
    unfold Builtin.Range.small
    rw [hsz, hf 0 (by omega) (by omega), hf n (by omega) (by omega), hf 1 (by omega) (by omega), show (n : Int) + (1 - 1) = n by omega, hf n (by omega) (by omega)]
    simp
  refine wpAny_pyIter_range hr hsmall ?_
  have W := walksRangeH (prog := prog) (w := w) hh s.heap.objs.size hne n hd h2
  refine ⟨_, _, _, n, _, _, m₀, news, (fun i m nx => (e, oe) ∈ nx ∧ J i m nx), rfl, W, ?_, ?_, ?_, ⟨by show IsRangeIter _ _ _ _ _; rw [hsz]; simpa using Heap.get?_push_size _ rfl, Heap.get?_push_of_some _ hol⟩, F.push _, (fun p hp => ⟨Heap.get?_push_of_some _ (N p hp).1, (N p hp).2⟩), ⟨hl, hj⟩, ?_, ?_⟩
  · intro hm
    rcases List.mem_cons.mp hm with e | hm
    · exact absurd F.ns.lt (e ▸ Nat.lt_irrefl _)
    · exact (N _ hl).2.1 ((List.mem_singleton.mp hm).symm)
  · intro b hb
    rw [List.mem_singleton.mp hb]
    exact next_is_new F
  · intro p hp hI
    exact absurd (Heap.lt_size (N p hp).1) ((List.mem_singleton.mp hI) ▸ Nat.lt_irrefl _)
  · rintro i v m₁ news₁ s₁ own ⟨hh', tk', rfl⟩ hin ⟨_, t, rfl⟩ ⟨hl₁, hJ⟩ hoff hown hget hfp hst F₁ N₁
    have hI0 : h₀.get? s.heap.objs.size = none := next_is_new F
    obtain ⟨hoI, _⟩ := id hst
    have hIown : (s.heap.objs.size, _) ∈ own.filter fun p => decide (p.1 = s.heap.objs.size) := List.mem_filter.mpr ⟨hfp _ (List.mem_cons.mpr (.inl rfl)) hI0 _ hoI, by simp⟩
    have hsep : OwnOff (own.filter fun p => decide (p.1 = s.heap.objs.size)) (news₁.map (·.1)) := by
      intro p hp b hb e
      obtain ⟨q, hq, rfl⟩ := List.mem_map.mp hb
      have h1 : p.1 = s.heap.objs.size := by simpa using (List.mem_filter.mp hp).2
      exact hoff q hq (List.mem_singleton.mpr (e ▸ h1))
    have N₂ : News h₀ env.locals hh' (news₁ ++ own.filter fun p => decide (p.1 = s.heap.objs.size)) := fun p hp => N₁ p ((List.mem_append.mp hp).elim (fun h => List.mem_append.mpr (.inr h)) fun h => List.mem_append.mpr (.inl ((List.mem_filter.mp h).1)))
    have hlo : hh'.get? e = some oe := (N₁ _ (List.mem_append.mpr (.inr hl₁))).1
    refine wpAny_mono (turn i t m₁ news₁ hh' tk' _ hin hsep hl₁ hJ F₁ N₂) (fun f s₂ p => ?_) fun _ _ e => e
    have fin : InvEndG h₀ env.locals (fun m' nx => (e, oe) ∈ nx ∧ J (i + 1) m' nx) (own.filter fun p => decide (p.1 = s.heap.objs.size)) { s with heap := hh', toks := tk' } s₂ →
        LoopStepU h₀ env.locals [s.heap.objs.size] own (fun m nx => (e, oe) ∈ nx ∧ J (i + 1) m nx) { s with heap := hh', toks := tk' } .next s₂ := by
      rintro ⟨h', tk, m', news', nx, e9, F', N', hn, ho, ha, hm⟩
      refine ⟨rfl, h', tk, m', nx, e9, F', fun p hp => ?_, fun p hp hq => ?_, hm⟩
      · rcases List.mem_append.mp hp with h | h
        · by_cases hI : p.1 = s.heap.objs.size
          · exact N' p (ho p (List.mem_filter.mpr ⟨h, by simpa using hI⟩))
          · have h1 : p.1 = e := by
              rcases List.mem_cons.mp (hown p h) with h2 | h2
              · exact absurd h2 hI
              · exact List.mem_singleton.mp h2
            have h2 : hh'.get? p.1 = some p.2 := hget p h
            rw [h1, hlo] at h2
            have h3 : p = (e, oe) := Prod.ext h1 (Option.some.inj h2).symm
            rw [h3]
            exact N' _ (hn _ hm.1)
        · exact N' p (hn p h)
      · exact ha _ hIown p.1 (List.mem_map.mpr ⟨p, hp, rfl⟩) (List.mem_singleton.mp hq).symm
    cases f with
    | ret v => exact .ret p
    | brk => exact .brk p
    | next => exact .next (fin p)
    | cont => exact .cont (fin p)
  · rintro h' tk m' news' F' N' _ ⟨_, hJ⟩
    exact done m' news' h' tk hJ F' N'
end
end Mine
end

section
open PySem PySem.W PyProof.Rows PySem.Calls PySem.Spec
set_option maxRecDepth 100000
namespace Mine
/-- the text of the law's faults -/
noncomputable def ftx : List Nat := List.replicate 40 10 ++ [97, 98, 99, 100, 101, 102, 103, 104]
theorem ftx_at : ∀ i c : Nat, i < 44 → ftx[i]? = some c → (ch c == Str.ofString "\n") = decide (i < 40) := by
  have h : ∀ i < 44, ∀ c ∈ ftx[i]?, (ch c == Str.ofString "\n") = decide (i < 40) := by decide +kernel
  exact fun i c hi hc => h i hi c hc
noncomputable def pm (x : Str) (tx t4 tr ts : Tok) (i : Nat) (z : Str) : Option Value :=
  if z = Str.ofString "start" then some (.int (min i 40 : Nat) ts) else if z = Str.ofString "row" then some (.int (1 + min i 40 : Nat) tr) else List.lookup z [(Str.ofString "at", Value.int 44 t4), (Str.ofString "text", Value.str x tx)]
/-- as ktrTop, a fault handled -/
noncomputable abbrev ktrH (hd : Option Value) (dp un : Nat) (gd : Option (List Code)) (cn : Str) (cs : Scope) (L a : Addr) (ccd : Value) (cl : List (Str × Addr)) (outer : List Env) : Around := { handled := hd, depth := dp, frames := some (envX cn cs L a ccd cl :: outer), guards := gd, units := un }
set_option maxHeartbeats 4000000 in
theorem place_use {prog : Program} {w : World} {mean : ExcName → Option Value} {mg mb : Str → Option Value} {x : Str} {tx t4 : Tok} {e : Addr} {oe : Obj} {evs : Array Value} {news : Led}
    {dp u : Nat} {gd : Option (List Code)} {cn : Str} {cs : Scope} {a : Addr} {ccd : Value} {cl : List (Str × Addr)} {outer : List Env} {A₀ : Around} {base h₀ : Heap} {L : Addr} {m : Str → Option Value} {s : Shared} {Q E : Value → Shared → Prop}
    (B : Below A₀ base outer h₀) (F : Fr h₀ L s.heap m) (X : (hd.heap_1_39 w.params).In h₀) (N : News h₀ L s.heap news) (T : Top hd.view_1_40 (looseW hd.view_1_40 [Str.ofString "GateloomError"]) mean mg mb h₀) (hk : cs.kind = .function)
    (he : (e, oe) ∈ news) (hev : oe.data = .fields evs) (hv2 : evs[2]? = some .none) (hx : x.cps.toList = ftx) (hd : dp + 5 < recursionLimit) (hu : u + 200 < cLine)
    (hret : ∀ D h' tk' t1 t2, Fr h₀ L h' m → (∀ p ∈ news, p.1 ≠ D) → News h₀ L h' ((D, tup [.int 41 t1, .int 5 t2]) :: news) → Q (.ref D) { s with heap := h', toks := tk' }) :
    wpAny (model prog w) (ktrH (some (.ref e)) dp u gd cn cs L a ccd cl outer) (call (.ref 54) [.str x tx, .int 44 t4]) Q E s := by
  w_top off
  k_with_none
  (k_with "nepick" => (first | (refine Nat.ne_of_lt ?_; first | exact Mine.pl_0 (by with_reducible assumption) | exact Mine.pl_1 (by with_reducible assumption) | exact Mine.pl_2 (by with_reducible assumption) | exact Mine.pl_3 (by with_reducible assumption) | exact Mine.pl_4 (by with_reducible assumption) | exact Mine.pl_5 (by with_reducible assumption) | exact Mine.pl_6 (by with_reducible assumption) | exact Mine.pl_7 (by with_reducible assumption) | exact Mine.pl_8 (by with_reducible assumption) | exact Mine.pl_9 (by with_reducible assumption) | exact Mine.pl_10 (by with_reducible assumption) | exact Mine.pl_11 (by with_reducible assumption) | exact Mine.pl_12 (by with_reducible assumption) | exact Mine.pl_13 (by with_reducible assumption) | exact Mine.pl_14 (by with_reducible assumption) | exact Mine.pl_15 (by with_reducible assumption) | exact Mine.pl_16 (by with_reducible assumption) | (refine Nat.lt_succ_of_lt ?_; first | exact Mine.pl_0 (by with_reducible assumption) | exact Mine.pl_1 (by with_reducible assumption) | exact Mine.pl_2 (by with_reducible assumption) | (refine Nat.lt_succ_of_lt ?_; first | exact Mine.pl_0 (by with_reducible assumption) | exact Mine.pl_1 (by with_reducible assumption) | exact Mine.pl_2 (by with_reducible assumption) | (refine Nat.lt_succ_of_lt ?_; first | exact Mine.pl_0 (by with_reducible assumption) | exact Mine.pl_1 (by with_reducible assumption) | exact Mine.pl_2 (by with_reducible assumption) | (refine Nat.lt_succ_of_lt ?_; first | exact Mine.pl_0 (by with_reducible assumption) | exact Mine.pl_1 (by with_reducible assumption) | exact Mine.pl_2 (by with_reducible assumption) | (refine Nat.lt_succ_of_lt ?_; first | exact Mine.pl_0 (by with_reducible assumption) | exact Mine.pl_1 (by with_reducible assumption) | exact Mine.pl_2 (by with_reducible assumption))))))) | (refine Ne.symm (Nat.ne_of_lt ?_); first | exact Mine.pl_0 (by with_reducible assumption) | exact Mine.pl_1 (by with_reducible assumption) | exact Mine.pl_2 (by with_reducible assumption) | exact Mine.pl_3 (by with_reducible assumption) | exact Mine.pl_4 (by with_reducible assumption) | exact Mine.pl_5 (by with_reducible assumption) | exact Mine.pl_6 (by with_reducible assumption) | exact Mine.pl_7 (by with_reducible assumption) | exact Mine.pl_8 (by with_reducible assumption) | exact Mine.pl_9 (by with_reducible assumption) | exact Mine.pl_10 (by with_reducible assumption) | exact Mine.pl_11 (by with_reducible assumption) | exact Mine.pl_12 (by with_reducible assumption) | exact Mine.pl_13 (by with_reducible assumption) | exact Mine.pl_14 (by with_reducible assumption) | exact Mine.pl_15 (by with_reducible assumption) | exact Mine.pl_16 (by with_reducible assumption))))
  (k_with "@units_room" => (have hcL' := cLine_is; simp only [units_in1, units_deeper, Around.mark_units]; dsimp only [ktrTop]; omega))
  (k_with "@k_all" => assumption)
  (k_with "@k_ne" => (refine neN ?_; (try dsimp only); first | with_reducible assumption | (refine Ne.symm ?_; with_reducible assumption) | k_extra "nepick"))
  (k_with "@units_room" => (have hcLpZq := cLine_is; simp only [units_in1, units_deeper, Around.mark_units]; dsimp only [ktrH]; omega))
  (k_with "@ktr_room" => ((try simp only [depth_under_make, depth_under_kw, depth_in1, depth_deeper, depth_caller] at *); (try dsimp only [ktrH] at *); omega))
  (k_with "@ktr_units" => (have hcL9Zq := cLine_is; (try simp only [units_in1, units_deeper, Around.mark_units, units_caller] at *); (try dsimp only [ktrH] at *); omega))
  (k_with "call builtin:min" => (k_here; k_dflt (refine' my_minH ?hhZq ?FZq ?NZq ?eZq ?dZq ?vZq ?_; (case hhZq => exact rfl); (case FZq => k_asm); (case NZq => k_asm); (case eZq => assumption); (case dZq => assumption); (case vZq => assumption)); intro _ _ _ _ _; (try dsimp only)))
  (k_with "call builtin:max" => (k_here; k_dflt (refine' my_maxH ?hhZq ?FZq ?NZq ?eZq ?dZq ?vZq ?_; (case hhZq => exact rfl); (case FZq => k_asm); (case NZq => k_asm); (case eZq => assumption); (case dZq => assumption); (case vZq => assumption)); intro _ _ _ _ _; (try dsimp only)))
  (k_with "pyIter ref" => (refine Blk.mk ?_))
  (k_with "exec For" => (k_here; (rename Fr _ _ _ _ => lFpZq); (with_unfolding_all refine' For_invVF lFpZq ?k1Zq ?k2Zq ?_; (case k1Zq => exact rfl); (case k2Zq => exact rfl); k_whole)))
  (k_with "call builtin:len" => (k_here; (with_reducible show wpAny _ _ (call (Value.builtin "len") [Value.str _ _]) _ _ _); k_dflt (refine my_len_s (by omega) ?_); (try dsimp only)))
  (k_with "subscriptTail Name Name str int" => (k_here; (with_reducible show wpAny _ _ (subscriptTail _ _ (Value.str _ _) (Value.int _ _)) _ _ _); k_dflt (refine' my_ch ?aZq ?bZq ?_; (case aZq => omega); (case bZq => assumption)); intro _; (try dsimp only)))
  have hsz : x.cps.size = 48 := by rw [← Array.length_toList, hx]; rfl
  refine wpAny_call ?_
  k_dflt ktr_enter
  rename Fr _ _ _ (fun y => List.lookup y _) => F9
  replace F9 : Fr _ _ _ (fun y => ([(Str.ofString "at", .int 44 t4), (Str.ofString "text", .str x tx)] : List (Str × Value)).lookup y) := F9
  generalize s.toks + _ = tk0
  k_steps
  refine Blk.out ?_
  rename News _ _ _ _ => N9
  rename_i F8
  refine rngH_iter (n := 44) (fun i m' nx => nx = news ∧ ∃ (tr ts : Tok) (u : Str → Option Value), m' = fun z => if [Str.ofString "i"].contains z then u z else pm x tx t4 tr ts i z)
    rfl he hev hv2 (by assumption) ?_ (by decide) (by assumption) N9 ?_ ?_ ?_
  · rw [hsz]; rfl
  · refine ⟨rfl, ?tr, ?ts, st_end fun z hz => ?g⟩
    case g => exact rfl
  · rintro i t m₁ nx h tk own hi ho _ ⟨rfl, tr, ts, u, rfl⟩ F₁ N₁
    obtain ⟨c, hc⟩ : ∃ c, x.cps.toList[i]? = some c := ⟨_, List.getElem?_eq_getElem (by rw [Array.length_toList]; omega)⟩
    have hc2 := ftx_at i c hi (hx ▸ hc)
    simp only [pm] at F₁
    k_steps
    · rename ((ch c == _) = true) => hb
      rename News _ _ _ (nx ++ own) => N8
      rename Fr _ _ _ (fun y => if y = Str.ofString "start" then _ else _) => F8
      rw [hc2, decide_eq_true_eq] at hb
      have e1 : min i 40 = i := by omega
      have e2 : min (i + 1) 40 = i + 1 := by omega
      refine InvEndG.intro F8 N8 ⟨he, rfl, ?tr1, ?ts1, st_end fun z hz => ?g1⟩ ho (fun p hp => List.mem_append.mpr (.inl hp)) (fun p hp => List.mem_append.mpr (.inr hp))
      case g1 =>
        have hz2 : z ≠ Str.ofString "i" := by simpa using hz
        rw [hz]
        simp only [hz2, pm, e1, e2, if_false, Bool.false_eq_true]
        by_cases h1 : z = Str.ofString "start"
        · rw [if_pos h1, if_pos h1]; exact rfl
        · rw [if_neg h1, if_neg h1, if_neg h1]
          by_cases h2 : z = Str.ofString "row"
          · rw [if_pos h2, if_pos h2]; exact rfl
          · rw [if_neg h2, if_neg h2, if_neg h2]
    · rename ((ch c == _) = false) => hb
      rename News _ _ _ (nx ++ own) => N8
      rename Fr _ _ _ (fun y => if y = Str.ofString "i" then _ else _) => F8
      rw [hc2, decide_eq_false_iff_not] at hb
      have e1 : min i 40 = 40 := by omega
      have e2 : min (i + 1) 40 = 40 := by omega
      refine InvEndG.intro F8 N8 ⟨he, rfl, ?tr2, ?ts2, st_end fun z hz => ?g2⟩ ho (fun p hp => List.mem_append.mpr (.inl hp)) (fun p hp => List.mem_append.mpr (.inr hp))
      case g2 =>
        have hz2 : z ≠ Str.ofString "i" := by simpa using hz
        rw [hz]
        simp only [hz2, pm, e1, e2, if_false, Bool.false_eq_true]
        exact rfl
  · rintro m₁ nx h tk ⟨rfl, tr, ts, u, rfl⟩ F₁ N₁
    simp only [pm] at F₁
    k_steps
    rename News h₀ L _ _ => kN9
    rename Fr h₀ L _ _ => kF9
    rename (∀ p ∈ nx, p.1 < _) => l9
    exact hret _ _ _ _ _ kF9 (fun p hp => Nat.ne_of_lt (l9 p hp)) kN9
end Mine
end

section
open PySem PySem.W PyProof.Rows PySem.Calls PySem.Spec
set_option maxRecDepth 100000
namespace Mine
theorem fault_txt : Str.empty ++ Str.ofString (toString (41 : Int)) ++ Str.ofString ":" ++ Str.ofString (toString (5 : Int)) ++ Str.ofString ": " ++ Str.ofString "nba_to_local" = Str.ofString "41:5: nba_to_local" := by decide +kernel
section
variable {prog : Program} {w : World} {A : Around} {E : Value → Shared → Prop} {s : Shared} {h₀ : Heap} {L : Addr} {m : Str → Option Value} {news : Led}
/-- an attribute of the fault -/
theorem get_F {e d : Addr} {vs : Array Value} {sl : Array (Option Value)} {es : List DictEntry} {n : Nat} {name : Str} {v : Value} {expr : Bool} {Q : Value → Shared → Prop} (F : Fr h₀ L s.heap m) (X : (hd.heap_1_39 w.params).In h₀) (N : News h₀ L s.heap news)
    (he : (e, ⟨.ref 45, some d, .fields vs, sl⟩) ∈ news) (hdd : (d, dictOf es n) ∈ news) (ha : findIn (hd.heap_1_39 w.params) (.ref 45) name = some none)
    (hl : getL name es = some (some v)) (hh : handedIn v = true) (hq : Q v { s with toks := s.toks + 1 }) : wpAny (model prog w) A (getAttr (.ref e) name expr) Q E s :=
  get_D (X.keeps F.keep) ⟨(N _ he).1, rfl, rfl, (N _ hdd).1⟩ ha hl hh hq
end
set_option maxHeartbeats 4000000 in
theorem describe_use {prog : Program} {w : World} {mean : ExcName → Option Value} {mg mb : Str → Option Value} {x : Str} {tx k1 k2 k3 t4 t5 t6 : Tok} {e d : Addr} {vs : Array Value} {sl : Array (Option Value)} {news : Led}
    {dp u : Nat} {gd : Option (List Code)} {cn : Str} {cs : Scope} {a : Addr} {ccd : Value} {cl : List (Str × Addr)} {outer : List Env} {A₀ : Around} {base h₀ : Heap} {L : Addr} {m : Str → Option Value} {s : Shared} {Q E : Value → Shared → Prop}
    (B : Below A₀ base outer h₀) (F : Fr h₀ L s.heap m) (X : (hd.heap_1_39 w.params).In h₀) (N : News h₀ L s.heap news) (T : Top hd.view_1_40 (looseW hd.view_1_40 [Str.ofString "GateloomError"]) mean mg mb h₀) (hk : cs.kind = .function)
    (he : (e, ⟨.ref 45, some d, .fields vs, sl⟩) ∈ news) (hd' : (d, dictOf (excEs w.params k1 k2 k3 t4 t5 t6) 3) ∈ news)
    (hv2 : vs[2]? = some .none) (hx : x.cps.toList = ftx) (hd : dp + 15 < recursionLimit) (hu : u + 400 < cLine)
    (hret : ∀ h' tk' t1, Fr h₀ L h' m → News h₀ L h' news → Q (.str (Str.ofString "41:5: nba_to_local") t1) { s with heap := h', toks := tk' }) :
    wpAny (model prog w) (ktrH (some (.ref e)) dp u gd cn cs L a ccd cl outer) (call (.ref 61) [.ref e, .str x tx]) Q E s := by
  w_top off
  k_with_none
  (k_with "nepick" => (first | (refine Nat.ne_of_lt ?_; first | exact Mine.pl_0 (by with_reducible assumption) | exact Mine.pl_1 (by with_reducible assumption) | exact Mine.pl_2 (by with_reducible assumption) | exact Mine.pl_3 (by with_reducible assumption) | exact Mine.pl_4 (by with_reducible assumption) | exact Mine.pl_5 (by with_reducible assumption) | exact Mine.pl_6 (by with_reducible assumption) | exact Mine.pl_7 (by with_reducible assumption) | exact Mine.pl_8 (by with_reducible assumption) | exact Mine.pl_9 (by with_reducible assumption) | exact Mine.pl_10 (by with_reducible assumption) | exact Mine.pl_11 (by with_reducible assumption) | exact Mine.pl_12 (by with_reducible assumption) | exact Mine.pl_13 (by with_reducible assumption) | exact Mine.pl_14 (by with_reducible assumption) | exact Mine.pl_15 (by with_reducible assumption) | exact Mine.pl_16 (by with_reducible assumption) | (refine Nat.lt_succ_of_lt ?_; first | exact Mine.pl_0 (by with_reducible assumption) | exact Mine.pl_1 (by with_reducible assumption) | exact Mine.pl_2 (by with_reducible assumption) | (refine Nat.lt_succ_of_lt ?_; first | exact Mine.pl_0 (by with_reducible assumption) | exact Mine.pl_1 (by with_reducible assumption) | exact Mine.pl_2 (by with_reducible assumption) | (refine Nat.lt_succ_of_lt ?_; first | exact Mine.pl_0 (by with_reducible assumption) | exact Mine.pl_1 (by with_reducible assumption) | exact Mine.pl_2 (by with_reducible assumption) | (refine Nat.lt_succ_of_lt ?_; first | exact Mine.pl_0 (by with_reducible assumption) | exact Mine.pl_1 (by with_reducible assumption) | exact Mine.pl_2 (by with_reducible assumption) | (refine Nat.lt_succ_of_lt ?_; first | exact Mine.pl_0 (by with_reducible assumption) | exact Mine.pl_1 (by with_reducible assumption) | exact Mine.pl_2 (by with_reducible assumption))))))) | (refine Ne.symm (Nat.ne_of_lt ?_); first | exact Mine.pl_0 (by with_reducible assumption) | exact Mine.pl_1 (by with_reducible assumption) | exact Mine.pl_2 (by with_reducible assumption) | exact Mine.pl_3 (by with_reducible assumption) | exact Mine.pl_4 (by with_reducible assumption) | exact Mine.pl_5 (by with_reducible assumption) | exact Mine.pl_6 (by with_reducible assumption) | exact Mine.pl_7 (by with_reducible assumption) | exact Mine.pl_8 (by with_reducible assumption) | exact Mine.pl_9 (by with_reducible assumption) | exact Mine.pl_10 (by with_reducible assumption) | exact Mine.pl_11 (by with_reducible assumption) | exact Mine.pl_12 (by with_reducible assumption) | exact Mine.pl_13 (by with_reducible assumption) | exact Mine.pl_14 (by with_reducible assumption) | exact Mine.pl_15 (by with_reducible assumption) | exact Mine.pl_16 (by with_reducible assumption))))
  (k_with "@units_room" => (have hcL' := cLine_is; simp only [units_in1, units_deeper, Around.mark_units]; dsimp only [ktrTop]; omega))
  (k_with "@k_all" => assumption)
  (k_with "@k_ne" => (refine neN ?_; (try dsimp only); first | with_reducible assumption | (refine Ne.symm ?_; with_reducible assumption) | k_extra "nepick"))
  (k_with "@units_room" => (have hcLpZq := cLine_is; simp only [units_in1, units_deeper, Around.mark_units]; dsimp only [ktrH]; omega))
  (k_with "@ktr_room" => ((try simp only [depth_under_make, depth_under_kw, depth_in1, depth_deeper, depth_caller] at *); (try dsimp only [ktrH] at *); omega))
  (k_with "@ktr_units" => (have hcL9Zq := cLine_is; (try simp only [units_in1, units_deeper, Around.mark_units, units_caller] at *); (try dsimp only [ktrH] at *); omega))
  (k_with "@k_mem" => (refine List.mem_cons_of_mem _ ?_; k_mem))
  (k_with "getAttr ref" => (k_here; k_dflt (refine' get_F ?FZq ?XZq ?NZq ?eZq ?dZq ?haZq ?hlZq ?hhZq ?_; (case FZq => k_asm); (case XZq => k_asm); (case NZq => k_asm); (case eZq => k_mem); (case dZq => k_mem); (case haZq => k_is); (case hlZq => rfl); (case hhZq => rfl)); (try dsimp only)))
  (k_with "assign Tuple" => (k_here; (with_reducible show wpAny _ _ (assign (Expr.Tuple _ _ _) _ (Value.ref _)) _ _ _); k_dflt (refine' unpackH ?hhZq ?FZq ?NZq ?eZq ?dZq ?vZq ?tZq ?k1Zq ?k2Zq ?_; (case hhZq => exact rfl); (case FZq => k_asm); (case NZq => k_asm); (case eZq => k_mem); (case dZq => exact rfl); (case vZq => assumption); (case tZq => exact News.isTup (by k_asm) (by k_mem)); (case k1Zq => exact rfl); (case k2Zq => exact rfl)); intro _ _ _; (try k_sweep)))
  (k_with "call ref" => (k_here; k_dflt (refine' place_use ?BZq ?FZq ?XZq ?NZq ?TZq ?hkZq ?heZq ?hevZq ?hv2Zq ?hxZq ?hdZq ?huZq ?_); (case heZq => assumption); (case hevZq => rfl); (case hv2Zq => assumption); (case BZq => k_asm); (case FZq => k_asm); (case XZq => k_asm); (case NZq => k_asm); (case TZq => k_asm); (case hkZq => rfl); (case hxZq => assumption); (case hdZq => ktr_room); (case huZq => ktr_units); intro _ _ _ _ _ _ _ _; (try dsimp only)))
  unfold excEs at hd'
  refine wpAny_call ?_
  k_dflt ktr_enter
  rename Fr _ _ _ (fun y => List.lookup y _) => F9
  replace F9 : Fr _ _ _ (fun y => ([(Str.ofString "text", .str x tx), (Str.ofString "error", .ref e)] : List (Str × Value)).lookup y) := F9
  generalize s.toks + _ = tk0
  k_steps
  rename News h₀ L _ _ => kN9
  rename Fr h₀ L _ _ => kF9
  rw [← fault_txt] at hret
  exact hret _ _ _ kF9 (newsSub kN9 fun p hp => .tail _ hp)
end Mine
end

section
open PySem PySem.W PyProof.Rows PySem.Calls PySem.Spec
set_option maxRecDepth 100000
namespace Mine
set_option maxHeartbeats 4000000 in
theorem refuse_use {prog : Program} {w : World} {mean : ExcName → Option Value} {mg mb : Str → Option Value} {g pt : Addr} {vs : List Value} {bs : List Bool} {t1 t2 : Tok} {news : Led}
    {dp u : Nat} {gd : Option (List Code)} {cn : Str} {cs : Scope} {a : Addr} {ccd : Value} {cl : List (Str × Addr)} {A₀ : Around} {base h₀ : Heap} {L : Addr} {m : Str → Option Value} {s : Shared} {Q E : Value → Shared → Prop}
    (B : Below A₀ base [] h₀) (F : Fr h₀ L s.heap m) (X : (hd.heap_1_39 w.params).In h₀) (N : News h₀ L s.heap news) (T : Top hd.view_1_40 (looseW hd.view_1_40 [Str.ofString "GateloomError"]) mean mg mb h₀) (hk : cs.kind = .function)
    (hg : (g, tup [.str (Str.ofString "lv") t1, .int 8 t2, .ref pt]) ∈ news) (hp : (pt, tup vs) ∈ news) (hb : PartsAt news vs bs) (hd : dp + 40 < recursionLimit) (hu : u + 1000 < cLine)
    (hret : bs.any id = false → ∀ h' tk', Fr h₀ L h' m → News h₀ L h' news → Q .none { s with heap := h', toks := tk' })
    (hret2 : bs.any id = true → ∀ D h' tk' t1 t2 t3, Fr h₀ L h' m → (∀ p ∈ news, p.1 ≠ D) → News h₀ L h' ((D, tup [.str (Str.ofString "nba_to_local") t1, .int 44 t2, .str (Str.ofString "41:5: nba_to_local") t3]) :: news) → Q (.ref D) { s with heap := h', toks := tk' }) :
    wpAny (model prog w) (ktrTop dp u gd cn cs L a ccd cl []) (call (.ref 127) [.ref g]) Q E s := by
  w_top off
  k_with_none
  (k_with "nepick" => (first | (refine Nat.ne_of_lt ?_; first | exact Mine.pl_0 (by with_reducible assumption) | exact Mine.pl_1 (by with_reducible assumption) | exact Mine.pl_2 (by with_reducible assumption) | exact Mine.pl_3 (by with_reducible assumption) | exact Mine.pl_4 (by with_reducible assumption) | exact Mine.pl_5 (by with_reducible assumption) | exact Mine.pl_6 (by with_reducible assumption) | exact Mine.pl_7 (by with_reducible assumption) | exact Mine.pl_8 (by with_reducible assumption) | exact Mine.pl_9 (by with_reducible assumption) | exact Mine.pl_10 (by with_reducible assumption) | exact Mine.pl_11 (by with_reducible assumption) | exact Mine.pl_12 (by with_reducible assumption) | exact Mine.pl_13 (by with_reducible assumption) | exact Mine.pl_14 (by with_reducible assumption) | exact Mine.pl_15 (by with_reducible assumption) | exact Mine.pl_16 (by with_reducible assumption) | (refine Nat.lt_succ_of_lt ?_; first | exact Mine.pl_0 (by with_reducible assumption) | exact Mine.pl_1 (by with_reducible assumption) | exact Mine.pl_2 (by with_reducible assumption) | (refine Nat.lt_succ_of_lt ?_; first | exact Mine.pl_0 (by with_reducible assumption) | exact Mine.pl_1 (by with_reducible assumption) | exact Mine.pl_2 (by with_reducible assumption) | (refine Nat.lt_succ_of_lt ?_; first | exact Mine.pl_0 (by with_reducible assumption) | exact Mine.pl_1 (by with_reducible assumption) | exact Mine.pl_2 (by with_reducible assumption) | (refine Nat.lt_succ_of_lt ?_; first | exact Mine.pl_0 (by with_reducible assumption) | exact Mine.pl_1 (by with_reducible assumption) | exact Mine.pl_2 (by with_reducible assumption) | (refine Nat.lt_succ_of_lt ?_; first | exact Mine.pl_0 (by with_reducible assumption) | exact Mine.pl_1 (by with_reducible assumption) | exact Mine.pl_2 (by with_reducible assumption))))))) | (refine Ne.symm (Nat.ne_of_lt ?_); first | exact Mine.pl_0 (by with_reducible assumption) | exact Mine.pl_1 (by with_reducible assumption) | exact Mine.pl_2 (by with_reducible assumption) | exact Mine.pl_3 (by with_reducible assumption) | exact Mine.pl_4 (by with_reducible assumption) | exact Mine.pl_5 (by with_reducible assumption) | exact Mine.pl_6 (by with_reducible assumption) | exact Mine.pl_7 (by with_reducible assumption) | exact Mine.pl_8 (by with_reducible assumption) | exact Mine.pl_9 (by with_reducible assumption) | exact Mine.pl_10 (by with_reducible assumption) | exact Mine.pl_11 (by with_reducible assumption) | exact Mine.pl_12 (by with_reducible assumption) | exact Mine.pl_13 (by with_reducible assumption) | exact Mine.pl_14 (by with_reducible assumption) | exact Mine.pl_15 (by with_reducible assumption) | exact Mine.pl_16 (by with_reducible assumption))))
  (k_with "@units_room" => (have hcL' := cLine_is; simp only [units_in1, units_deeper, Around.mark_units]; dsimp only [ktrTop]; omega))
  (k_with "@k_all" => assumption)
  (k_with "@k_ne" => (refine neN ?_; (try dsimp only); first | with_reducible assumption | (refine Ne.symm ?_; with_reducible assumption) | k_extra "nepick"))
  (k_with "@k_mem" => (refine List.mem_cons_of_mem _ ?_; k_mem))
  (k_with "call ref" => (k_here; (with_reducible show wpAny _ _ (call (Value.ref 75) _) _ _ _); k_dflt (refine' check_use ?BZq ?FZq ?XZq ?NZq ?TZq ?hkZq ?hgZq ?hpZq ?hbZq ?hdZq ?huZq ?_ ?_); (case BZq => k_asm); (case FZq => k_asm); (case XZq => k_asm); (case NZq => k_asm); (case TZq => k_asm); (case hkZq => rfl); (case hgZq => assumption); (case hpZq => assumption); (case hbZq => assumption); (case hdZq => ktr_room); (case huZq => ktr_units)))
  (k_with "noteFrame ref" => (refine Blk.mk ?_))
  (k_with "getAttr ref" => (k_here; k_dflt (refine' get_F ?FZq ?XZq ?NZq ?eZq ?dZq ?haZq ?hlZq ?hhZq ?_; (case FZq => k_asm); (case XZq => k_asm); (case NZq => k_asm); (case eZq => k_mem); (case dZq => k_mem); (case haZq => k_is); (case hlZq => rfl); (case hhZq => rfl)); (try dsimp only)))
  (k_with "call ref" => (k_here; (with_reducible show wpAny _ _ (call (Value.ref 61) _) _ _ _); k_dflt (refine' describe_use ?BZq ?FZq ?XZq ?NZq ?TZq ?hkZq ?heZq ?hdpZq ?hv2Zq ?hxZq ?hdZq ?huZq ?_); (case BZq => k_asm); (case FZq => k_asm); (case XZq => k_asm); (case NZq => k_asm); (case TZq => k_asm); (case hkZq => rfl); (case heZq => k_mem); (case hdpZq => k_mem); (case hv2Zq => assumption); (case hxZq => decide +kernel); (case hdZq => ktr_room); (case huZq => ktr_units); intro _ _ _ _ _; (try dsimp only)))
  refine wpAny_call ?_
  k_dflt (refine' code_defR ?k1 ?k2 ?k3 ?k4 ?k5 ?kA ?kF ?kK ?k6 ?k7 ?k8 ?k9 ?kB ?_ ?c2 ?c3 ?c4 ?c5; (case kA => exact rfl); (case kF => exact rfl); (case kK => assumption); (case k1 => k_asm); (case k2 => k_asm); (case k3 => k_asm); (case k4 => k_asm); (case k5 => k_asm); (case k6 => k_is); (case k7 => k_is); (case k8 => ktr_room); (case k9 => exact BindsTo.of_eq rfl); (case c5 => decide); (case kB => exact locs rfl); (case c2 => exact rfl); (case c3 => exact rfl); (case c4 => exact rfl); k_whole; intro g' L' h' FG' F' N' B' X' T'; (try dsimp only); (try k_fold))
  replace F' : Fr _ _ _ (fun y => ([(Str.ofString "goal", .ref g)] : List (Str × Value)).lookup y) := F'
  generalize s.toks + _ = tk0
  k_steps
  · rename News h₀ L _ _ => kN9
    rename Fr h₀ L _ _ => kF9
    exact hret (by assumption) _ _ kF9 kN9
  · refine Blk.out ?_
    rename Fr g' L' _ _ => F7
    rename (∀ p ∈ news, _) => hsub
    refine caughtD (by assumption) (by assumption) B' (by assumption) FG' rfl X T ?_
    intro h2 g2 tk2 vs2 sl2 hv2 T2 F2 N2 B2 FL2 X2 P2
    clear F7 F' N' B' FG' X' T'
    rename bs.any id = true => hany
    unfold excEs at N2
    k_steps
    rename News h₀ L _ _ => kN9
    rename Fr h₀ L _ _ => kF9
    rename (_ ∧ _ ∧ AllLt _ _) => l9
    exact hret2 hany _ _ _ _ _ _ kF9 (fun p hp => Nat.ne_of_lt (tb_ltOf l9.2.2 p (hsub p hp))) (newsSub kN9 fun p hp => (List.mem_cons.mp hp).elim (fun e => e ▸ .head _) fun hp => .tail _ (.tail _ (.tail _ (hsub p hp))))
end Mine
end

section
open PySem PySem.W PyProof.Rows PySem.Calls PySem.Spec
set_option maxRecDepth 100000
namespace Mine
noncomputable def Tr.some : Tr → Bool
  | .no => false
  | .mk _ _ _ => true
theorem Tr.allIn_len {news : Led} : ∀ {ts : List Tr} {vs : List Value}, Tr.AllIn news ts vs → vs.length = ts.length
  | [], vs, h => by rw [Tr.AllIn] at h; subst h; rfl
  | t :: r, vs, h => by
    rw [Tr.AllIn] at h
    obtain ⟨v, vs', rfl, _, h2⟩ := h
    simp [Tr.allIn_len h2]
theorem Tr.allIn_app {news : Led} : ∀ {ts us : List Tr} {vs ws : List Value}, Tr.AllIn news ts vs → Tr.AllIn news us ws → Tr.AllIn news (ts ++ us) (vs ++ ws)
  | [], us, vs, ws, h, g => by rw [Tr.AllIn] at h; subst h; exact g
  | t :: r, us, vs, ws, h, g => by
    rw [Tr.AllIn] at h
    obtain ⟨v, vs', rfl, h1, h2⟩ := h
    show Tr.AllIn news (t :: (r ++ us)) (v :: (vs' ++ ws))
    rw [Tr.AllIn]
    exact ⟨v, _, rfl, h1, Tr.allIn_app h2 g⟩
theorem Tr.allIn_snocI {news : Led} : ∀ {ts : List Tr} {vs : List Value} {v : Value}, Tr.AllIn news ts (vs ++ [v]) → ∃ ts' t, ts = ts' ++ [t] ∧ Tr.AllIn news ts' vs ∧ t.In news v
  | [], vs, v, h => by rw [Tr.AllIn] at h; simp at h
  | t :: r, [], v, h => by
    rw [Tr.AllIn] at h
    obtain ⟨v', vs', e, h1, h2⟩ := h
    obtain ⟨rfl, rfl⟩ : v' = v ∧ vs' = [] := by simpa [eq_comm] using e
    have hr : r = [] := by
      have := Tr.allIn_len h2
      exact List.length_eq_zero_iff.mp this.symm
    subst hr
    exact ⟨[], t, rfl, by rw [Tr.AllIn], h1⟩
  | t :: r, u :: vs, v, h => by
    rw [Tr.AllIn] at h
    obtain ⟨v', vs', e, h1, h2⟩ := h
    obtain ⟨rfl, rfl⟩ : v' = u ∧ vs' = vs ++ [v] := by simpa [eq_comm] using e
    obtain ⟨ts', t', rfl, g1, g2⟩ := Tr.allIn_snocI h2
    exact ⟨t :: ts', t', rfl, by rw [Tr.AllIn]; exact ⟨v', vs, rfl, h1, g1⟩, g2⟩
theorem Tr.in_some {news : Led} {t : Tr} {v : Value} (h : t.In news v) : Mine.isSome v = t.some := by
  cases t with
  | no => rw [Tr.In] at h; subst h; rfl
  | mk k i kids =>
    rw [Tr.In] at h
    obtain ⟨a, vs, rfl, _⟩ := h
    simp [Mine.isSome, Tr.some]
theorem Tr.allIn_filter {news : Led} : ∀ {ts : List Tr} {vs : List Value}, Tr.AllIn news ts vs → Tr.AllIn news (ts.filter Tr.some) (vs.filter Mine.isSome)
  | [], vs, h => by rw [Tr.AllIn] at h; subst h; simp [Tr.AllIn]
  | t :: r, vs, h => by
    rw [Tr.AllIn] at h
    obtain ⟨v, vs', rfl, h1, h2⟩ := h
    have e := Tr.in_some h1
    have ih := Tr.allIn_filter h2
    rw [List.filter_cons, List.filter_cons, e]
    cases t.some with
    | true => simp only [if_true]; rw [Tr.AllIn]; exact ⟨v, _, rfl, h1, ih⟩
    | false => simpa using ih
theorem Tr.okAll_filter : ∀ {ts : List Tr} {a b : Nat}, Tr.okAll ts a b → Tr.okAll (ts.filter Tr.some) a b
  | [], a, b, h => h
  | t :: r, a, b, h => by
    rw [Tr.okAll] at h
    obtain ⟨c, h1, h2⟩ := h
    have ih := Tr.okAll_filter h2
    cases t with
    | no => rw [Tr.ok] at h1; subst h1; simpa [List.filter_cons, Tr.some] using ih
    | mk k i kids =>
      rw [List.filter_cons]; simp only [Tr.some, if_true]
      rw [Tr.okAll]; exact ⟨c, h1, ih⟩
theorem Tr.okAll_app : ∀ {ts us : List Tr} {a b c : Nat}, Tr.okAll ts a b → Tr.okAll us b c → Tr.okAll (ts ++ us) a c
  | [], us, a, b, c, h, g => by rw [Tr.okAll] at h; subst h; exact g
  | t :: r, us, a, b, c, h, g => by
    rw [Tr.okAll] at h
    obtain ⟨d, h1, h2⟩ := h
    show Tr.okAll (t :: (r ++ us)) a c
    rw [Tr.okAll]
    exact ⟨d, h1, Tr.okAll_app h2 g⟩
theorem Tr.okAll_snocI : ∀ {ts : List Tr} {t : Tr} {a c : Nat}, Tr.okAll (ts ++ [t]) a c → ∃ b, Tr.okAll ts a b ∧ t.ok b c
  | [], t, a, c, h => by
    have h' : Tr.okAll [t] a c := h
    rw [Tr.okAll] at h'
    obtain ⟨d, h1, h2⟩ := h'
    rw [Tr.okAll] at h2; subst h2
    exact ⟨a, by rw [Tr.okAll], h1⟩
  | x :: r, t, a, c, h => by
    have h' : Tr.okAll (x :: (r ++ [t])) a c := h
    rw [Tr.okAll] at h'
    obtain ⟨d, h1, h2⟩ := h'
    obtain ⟨b, g1, g2⟩ := Tr.okAll_snocI h2
    exact ⟨b, by rw [Tr.okAll]; exact ⟨d, h1, g1⟩, g2⟩
mutual
theorem Tr.ok_le : ∀ {t : Tr} {a b : Nat}, t.ok a b → a ≤ b
  | .no, a, b, h => by rw [Tr.ok] at h; omega
  | .mk k i kids, a, b, h => by
    rw [Tr.ok] at h
    have := Tr.okAll_le h.1
    omega
theorem Tr.okAll_le : ∀ {ts : List Tr} {a b : Nat}, Tr.okAll ts a b → a ≤ b
  | [], a, b, h => by rw [Tr.okAll] at h; omega
  | t :: r, a, b, h => by
    rw [Tr.okAll] at h
    obtain ⟨c, h1, h2⟩ := h
    have := Tr.ok_le h1
    have := Tr.okAll_le h2
    omega
end
theorem Tr.ok_lt {t : Tr} {a b : Nat} (h : t.ok a b) (hs : t.some = true) : a < b := by
  cases t with
  | no => simp [Tr.some] at hs
  | mk k i kids =>
    rw [Tr.ok] at h
    have := Tr.okAll_le h.1
    omega
theorem Tr.okAll_len : ∀ {ts : List Tr} {a b : Nat}, Tr.okAll ts a b → (∀ t ∈ ts, t.some = true) → ts.length ≤ b - a
  | [], a, b, _, _ => by simp
  | t :: r, a, b, h, hs => by
    rw [Tr.okAll] at h
    obtain ⟨c, h1, h2⟩ := h
    have := Tr.ok_lt h1 (hs t (.head _))
    have := Tr.okAll_le h2
    have := Tr.okAll_len h2 fun u hu => hs u (.tail _ hu)
    simp; omega
mutual
theorem Tr.post_num : ∀ {t : Tr} {a b : Nat}, t.ok a b → t.post.map (·.2) = List.range' a (b - a)
  | .no, a, b, h => by rw [Tr.ok] at h; subst h; simp [Tr.post]
  | .mk k i kids, a, b, h => by
    rw [Tr.ok] at h
    obtain ⟨h1, rfl⟩ := h
    have hl := Tr.okAll_le h1
    rw [Tr.post, List.map_append, Tr.postAll_num h1]
    have e : i + 1 - a = (i - a) + 1 := by omega
    rw [e, List.range'_concat]
    simp; omega
theorem Tr.postAll_num : ∀ {ts : List Tr} {a b : Nat}, Tr.okAll ts a b → (Tr.postAll ts).map (·.2) = List.range' a (b - a)
  | [], a, b, h => by rw [Tr.okAll] at h; subst h; simp [Tr.postAll]
  | t :: r, a, b, h => by
    rw [Tr.okAll] at h
    obtain ⟨c, h1, h2⟩ := h
    have l1 := Tr.ok_le h1
    have l2 := Tr.okAll_le h2
    rw [Tr.postAll, List.map_append, Tr.post_num h1, Tr.postAll_num h2]
    have e : b - a = (c - a) + (b - c) := by omega
    have e2 : c = a + 1 * (c - a) := by omega
    rw [e, ← List.range'_append]
    rw [← e2]
end
end Mine
end

section
open PySem PySem.W PyProof.Rows PySem.Calls PySem.Spec
set_option maxRecDepth 100000
namespace Mine
theorem list_fi : fillsInplaceSlot (.type "list") "add" (Operator.Add == .Add) = pure false := by
  unfold fillsInplaceSlot
  show (typeLookup (.type "list") (dunderI "add") >>= fun fi => pure (fi.isSome && !isSeqSlot fi)) = pure false
  rw [PySem.F.slot_list_iadd.lookup, pure_bind]
  have : isSeqSlot (some (Value.builtin "list.__iadd__")) = true := by decide +kernel
  rw [this]
  rfl
/-- xs += ys of two lists of the ledger -/
theorem my_iadd {prog : Program} {w : World} {A : Around} {E : Value → Shared → Prop} {s : Shared} {h₀ : Heap} {L D b : Addr} {m : Str → Option Value} {news : Led} {acc ws : List Value} {n n2 : Nat} {g : Obj → Led} {Q : Value → Shared → Prop}
    (F : Fr h₀ L s.heap m) (N : News h₀ L s.heap news) (U : UpdF D (listOf acc.toArray n) news g) (hb : (b, listOf ws.toArray n2) ∈ news) (hz : acc.length + ws.length ≤ 90000)
    (h : ∀ h' c', Fr h₀ L h' m → News h₀ L h' (g (listOf (acc ++ ws).toArray c')) → Q (.ref D) { s with heap := h' }) :
    wpAny (model prog w) A (inplaceOp .Add (.ref D) (.ref b)) Q E s := by
  obtain ⟨pre, post, rfl, hg, a, c⟩ := U.split
  have z := N (D, listOf acc.toArray n) (List.mem_append.mpr (.inr (.head _)))
  have ha : s.TypeIs (.ref D) "list" := ⟨_, z.1, rfl⟩
  have hb' : s.TypeIs (.ref b) "list" := ⟨_, (N _ hb).1, rfl⟩
  unfold inplaceOp
  refine wpAny_holding ?_
  have hsi : seqSlot? (.type "list") (dunderI "add") = pure (some (.builtin "list.__iadd__")) := PySem.seqSlot_of PySem.F.slot_list_iadd.lookup (by decide +kernel)
  refine wpAny_bind (wpAny_typeOf ha (wpAny_bind (wpAny_of_eq list_fi ?_)))
  show wpAny (model prog w) A (if false = true then _ else _) Q E s
  rw [if_neg Bool.false_ne_true]
  refine wpAny_bind (wpAny_binaryOp1_none (nm := "add") ha hb' noFill_list_add ?_)
  refine wpAny_bind (wpAny_of_eq hsi ?_)
  refine wpAny_bind (wpAny_rule ?_)
  refine call_meets PySem.F.slot_list_iadd ha PySem.F.entry_list_iadd (PySem.F.args_list_iadd_2 _ _) (PySem.AutoSeq1.list___iadd___list_list_0 D acc.toArray n b ws.toArray n2 ?_ ?_ ?_) ⟨z.1, (N _ hb).1, ?_⟩
  · have : Builtin.List.listTooLong (acc.toArray.size + ws.toArray.size) = false := by
      unfold Builtin.List.listTooLong
      simp only [decide_eq_false_iff_not, List.size_toArray, sizeLine_eq]; omega
    rw [this]; simp
  · rw [List.size_toArray, sizeLine_eq]; omega
  · rw [List.size_toArray, List.size_toArray, sizeLine_eq]; omega
  · have e : acc.toArray ++ ws.toArray = (acc ++ ws).toArray := by simp
    by_cases hw : ws = []
    · refine h _ n (F.change (Heap.SameBut.update ..) z.2.1 z.2.2) ?_
      rw [hg]
      exact kl_turn0 (fun x => x ++ ws.toArray) N a c e (by simp [hw])
    · refine h _ (n + 1) (F.change (Heap.SameBut.update ..) z.2.1 z.2.2) ?_
      rw [hg]
      refine kl_turn (fun x => x ++ ws.toArray) N a c e ?_
      simpa using hw
end Mine
end

section
open PySem PySem.W PyProof.Rows PySem.Calls PySem.Spec PySem.SeqAt
set_option maxRecDepth 100000
namespace Mine
theorem eqAt_self {A : Around} {s : Shared} (b : Addr) : EqAt A s (.ref b) (.ref b) true := fun prog w E Q h => by
  unfold eqBool
  refine wpAny_holding ?_
  rw [if_pos (by simp)]
  exact wpAny_bind (wpAny_rule (wpAny_pure h))
/-- != of two lists with the very same items -/
theorem my_neSame {prog : Program} {w : World} {A : Around} {E : Value → Shared → Prop} {s : Shared} {h₀ : Heap} {L : Addr} {news : Led} {a b : Addr} {us : List Value} {n n' : Nat} {Q : Value → Shared → Prop} (N : News h₀ L s.heap news)
    (ha : (a, listOf us.toArray n) ∈ news) (hb : (b, listOf us.toArray n') ∈ news) (hr : ∀ u ∈ us, ∃ c, u = .ref c) (hu : A.units < cLine) (h : Q (.bool false) s) :
    wpAny (model prog w) A (compareOp .NotEq (.ref a) (.ref b)) Q E s := by
  have hl : s.heap.IsList a us.toArray := ⟨_, (N _ ha).1, rfl, n, rfl⟩
  have hl' : s.heap.IsList b us.toArray := ⟨_, (N _ hb).1, rfl, n', rfl⟩
  refine RcNeAt.lists (e := fun _ => true) hl hl' rfl hu (fun j j1 j2 => ?_) prog w E Q ?_
  · obtain ⟨c, hc⟩ := hr us.toArray[j] (by simp)
    rw [hc]
    exact eqAt_self c
  · rw [show (!(List.range us.toArray.size).all fun _ => true) = false from by simp]
    exact h
end Mine
end

section
open PySem PySem.W PyProof.Rows PySem.Calls PySem.Spec PySem.SeqAt
set_option maxRecDepth 100000
namespace Mine
/-- the numbers met, the last made first -/
noncomputable def metl (n c : Nat) : List Int := (List.range' c (n - c)).reverse.map fun j => ((100 + j : Nat) : Int)
theorem metl_all (n : Nat) : metl n n = [] := by simp [metl]
theorem metl_step {n i : Nat} (h : i < n) : metl n i = metl n (i + 1) ++ [((100 + i : Nat) : Int)] := by
  have e : n - i = (n - (i + 1)) + 1 := by omega
  unfold metl
  rw [e, List.range'_succ]
  simp
theorem metl_len (n c : Nat) : (metl n c).length = n - c := by simp [metl]
section
variable {prog : Program} {w : World} {A : Around} {E : Value → Shared → Prop} {s : Shared} {env : Env} {h₀ : Heap} {L : Addr} {body : List Stmt}
theorem my_neNil {news : Led} {a b : Addr} {n n' : Nat} {Q : Value → Shared → Prop} (N : News h₀ L s.heap news)
    (ha : (a, listOf #[] n) ∈ news) (hb : (b, listOf #[] n') ∈ news) (hu : A.units < cLine) (h : Q (.bool false) s) :
    wpAny (model prog w) A (compareOp .NotEq (.ref a) (.ref b)) Q E s :=
  my_neSame (us := []) N ha hb (fun _ h => nomatch h) hu h
theorem my_neSnoc {news : Led} {a b : Addr} {us : List Value} {v : Value} {n n' : Nat} {Q : Value → Shared → Prop} (N : News h₀ L s.heap news)
    (ha : (a, listOf (us ++ [v]).toArray n) ∈ news) (hb : (b, listOf #[] n') ∈ news) (hu : A.units < cLine) (h : Q (.bool true) s) :
    wpAny (model prog w) A (compareOp .NotEq (.ref a) (.ref b)) Q E s := by
  have hl : s.heap.IsList a (us ++ [v]).toArray := ⟨_, (N _ ha).1, rfl, n, rfl⟩
  have hl' : s.heap.IsList b #[] := ⟨_, (N _ hb).1, rfl, n', rfl⟩
  exact RcNeAt.lists_lengths hl hl' (by simp) hu prog w E Q h
/-- what «[tree] if tree is not None else []» gives -/
noncomputable def IteP (h₀ : Heap) (L : Addr) (m : Str → Option Value) (news : Led) (us : List Value) (s : Shared) (v : Value) (s' : Shared) : Prop :=
  ∃ D h' tk, v = .ref D ∧ s' = { s with heap := h', toks := tk } ∧ (∀ p ∈ news, p.1 < D) ∧ Fr h₀ L h' m ∧ News h₀ L h' ((D, listOf us.toArray 0) :: news)
theorem ite_cut {X : Sem Value} {m : Str → Option Value} {news : Led} (us : List Value) {Q : Value → Shared → Prop} (F : Fr h₀ L s.heap m) (N : News h₀ L s.heap news)
    (h : wpAny (model prog w) A X (IteP h₀ L m news us s) E s)
    (k : ∀ D h' tk, (∀ p ∈ news, p.1 < D) → Fr h₀ L h' m → News h₀ L h' ((D, listOf us.toArray 0) :: news) → Q (.ref D) { s with heap := h', toks := tk }) : wpAny (model prog w) A X Q E s :=
  wpAny_mono h (fun v s' ⟨D, h', tk, e1, e2, e3, e4, e5⟩ => by subst e1 e2; exact k D h' tk e3 e4 e5) fun _ _ e => e
theorem ite_tree {X : Sem Value} {m : Str → Option Value} {news tl : Led} {t : Tr} {r : Value} {Q : Value → Shared → Prop} (hT : Tr.In tl t r) (F : Fr h₀ L s.heap m) (N : News h₀ L s.heap news)
    (h1 : t = .no → r = .none → wpAny (model prog w) A X (IteP h₀ L m news [] s) E s) (h2 : ∀ a, r = .ref a → wpAny (model prog w) A X (IteP h₀ L m news [r] s) E s)
    (k : ∀ D h' tk, (∀ p ∈ news, p.1 < D) → Fr h₀ L h' m → News h₀ L h' ((D, listOf ([r].filter isSome).toArray 0) :: news) → Q (.ref D) { s with heap := h', toks := tk }) : wpAny (model prog w) A X Q E s := by
  refine ite_cut ([r].filter isSome) F N ?_ k
  cases t with
  | no =>
    rw [Tr.In] at hT
    have e : [r].filter isSome = [] := by subst hT; simp [isSome]
    rw [e]
    exact h1 rfl hT
  | mk k i kids =>
    rw [Tr.In] at hT
    obtain ⟨a, vs, e, _⟩ := hT
    have e' : [r].filter isSome = [r] := by subst e; simp [isSome]
    rw [e']
    exact h2 a e
noncomputable def MetJ (aW aM : Addr) (news : Led) (x : List Str) (N : Nat) (m₀ : Str → Option Value) (c : Nat) (m : Str → Option Value) (nx : Led) : Prop :=
  ∃ ts vs ms k1 k2, nx = (aW, listOf vs.toArray k1) :: (aM, listOf ms.toArray k2) :: news ∧ Tr.AllIn news ts vs ∧ (∀ t ∈ ts, t.some = true) ∧ Tr.okAll ts 0 c ∧ IntsAre ms (metl N c) ∧ c ≤ N ∧
    ∃ u : Str → Option Value, m = fun z => if x.contains z then u z else m₀ z
theorem met_end {h' : Heap} {aW aM : Addr} {news NX : Led} {x : List Str} {N b i tk k1 k2 : Nat} {m₀ m' : Str → Option Value} {Q : Flow → Shared → Prop} {ts kids : List Tr} {vs us ms : List Value} {t : Tok}
    (F : Fr h₀ L h' m') (N' : News h₀ L h' NX) (hs : ∀ p ∈ (aW, listOf (vs ++ us.filter isSome).toArray k1) :: (aM, listOf (ms.toArray.push (.int (100 + i : Nat) t)) k2) :: news, p ∈ NX)
    (hall : Tr.AllIn news ts vs) (hso : ∀ t ∈ ts, t.some = true) (hok : Tr.okAll ts 0 b) (hk : Tr.AllIn news kids us) (hkok : Tr.okAll kids b i) (hi : IntsAre ms (metl N (i + 1))) (hN : i + 1 ≤ N)
    (hm : ∀ z, x.contains z = false → m' z = m₀ z) :
    WhileStep2 h₀ L s (MetJ aW aM news x N m₀) Q (i + 1) .next { s with heap := h', toks := tk } := by
  refine ⟨h', tk, m', _, i, rfl, F, newsSub N' hs, Nat.lt_succ_self i, ts ++ kids.filter Tr.some, vs ++ us.filter isSome, ms ++ [.int (100 + i : Nat) t], k1, k2, ?_, Tr.allIn_app hall (Tr.allIn_filter hk), ?_, Tr.okAll_app hok (Tr.okAll_filter hkok), ?_, by omega, st_end hm⟩
  · simp
  · intro t ht
    rcases List.mem_append.mp ht with h | h
    · exact hso t h
    · exact (List.mem_filter.mp h).2
  · rw [metl_step (by omega)]
    exact hi.append (.cons _ _ .nil)
theorem While_met {test : Expr} {pos : Pos} {aW aM : Addr} {news : Led} {N : Nat} {t : Tr} {r : Value} {m : Str → Option Value} (x : List Str) {Q : Flow → Shared → Prop}
    (F : Fr h₀ L s.heap m) (N' : News h₀ L s.heap ((aW, listOf ([r].filter isSome).toArray 0) :: (aM, listOf #[] 0) :: news)) (hT : Tr.In news t r) (hok : t.ok 0 N)
    (done : ∀ ms k1 k2 (u : Str → Option Value) h₁ tk₁, IntsAre ms (metl N 0) → Fr h₀ L h₁ (fun z => if x.contains z then u z else m z) → News h₀ L h₁ ((aW, listOf #[] k1) :: (aM, listOf ms.toArray k2) :: news) →
      wpAny (model prog w) A (isTrue test env (eval test env)) (fun b s₂ => if b = true then wpAny (model prog w) A (execs body env) (WhileStep2 h₀ L s (MetJ aW aM news x N m) Q 0) E s₂ else Q .next s₂) E { s with heap := h₁, toks := tk₁ })
    (turn : ∀ ts vs ms k1 k2 a k i kids us b (u : Str → Option Value) h₁ tk₁, IntsAre ms (metl N (i + 1)) → ms.length ≤ N → vs.length ≤ N → us.length ≤ 3 → i + 1 ≤ N → Tr.AllIn news ts vs → (∀ t ∈ ts, t.some = true) → Tr.okAll ts 0 b → NodeAt news a k i us → Tr.AllIn news kids us → Tr.okAll kids b i →
      Fr h₀ L h₁ (fun z => if x.contains z then u z else m z) → News h₀ L h₁ ((aW, listOf (vs ++ [Value.ref a]).toArray k1) :: (aM, listOf ms.toArray k2) :: news) →
      wpAny (model prog w) A (isTrue test env (eval test env)) (fun b s₂ => if b = true then wpAny (model prog w) A (execs body env) (WhileStep2 h₀ L s (MetJ aW aM news x N m) Q (i + 1)) E s₂ else Q .next s₂) E { s with heap := h₁, toks := tk₁ })
    (hE : PassesOwn (model prog w) A env E := by passes_own) :
    wpAny (model prog w) A (exec (.While test body [] pos) env) Q E s := by
  refine While_inv2 (MetJ aW aM news x N m) F N' (n₀ := N) ⟨[t].filter Tr.some, _, [], 0, 0, rfl, Tr.allIn_filter (ts := [t]) (by rw [Tr.AllIn]; exact ⟨r, [], rfl, hT, by rw [Tr.AllIn]⟩), fun t ht => (List.mem_filter.mp ht).2, Tr.okAll_filter (ts := [t]) (by rw [Tr.okAll]; exact ⟨N, hok, by rw [Tr.okAll]⟩), by rw [metl_all]; exact .nil, Nat.le_refl _, st_end fun _ _ => rfl⟩ ?_ hE
  rintro c m₁ nx h₁ tk₁ F₁ N₁ ⟨ts, vs, ms, k1, k2, rfl, hall, hso, hok', hms, hc, u, rfl⟩
  rcases List.eq_nil_or_concat vs with rfl | ⟨us, y, rfl⟩
  · have hts : ts = [] := List.length_eq_zero_iff.mp (Tr.allIn_len hall).symm
    subst hts
    rw [Tr.okAll] at hok'
    subst hok'
    exact done ms k1 k2 u h₁ tk₁ hms F₁ N₁
  · rw [List.concat_eq_append] at *
    obtain ⟨ts, t', rfl, g1, g2⟩ := Tr.allIn_snocI hall
    obtain ⟨b, g3, g4⟩ := Tr.okAll_snocI hok'
    cases t' with
    | no => exact absurd (hso .no (by simp)) (by simp [Tr.some])
    | mk k i kids =>
      rw [Tr.In] at g2
      obtain ⟨a, ws, rfl, gn, ga⟩ := g2
      rw [Tr.ok] at g4
      obtain ⟨g4, rfl⟩ := g4
      have hso' : ∀ t ∈ ts, t.some = true := fun t ht => hso t (by simp [ht])
      have l1 := hms.length
      rw [metl_len] at l1
      have l2 := Tr.allIn_len g1
      have l3 := Tr.okAll_len g3 hso'
      have l4 := Tr.okAll_le g4
      refine turn ts us ms k1 k2 a k i kids ws b u h₁ tk₁ hms (by omega) (by omega) ?_ hc g1 hso' g3 gn ga g4 F₁ N₁
      cases gn with
      | leaf => simp
      | blk _ _ _ _ _ h => exact h
      | cas _ _ _ h hv =>
        have : ∀ {rows vs : List Value}, RowsAt news rows vs → rows.length = vs.length := fun h => by
          induction h with
          | nil => rfl
          | cons _ _ _ _ ih => simp [ih]
        rw [← this hv]; exact h
      | iff => simp
      | rng => simp
      | fev => simp
      | one => simp
end
theorem iadd_met {prog : Program} {w : World} {A : Around} {E : Value → Shared → Prop} {s : Shared} {h₀ : Heap} {L D aW ax ay : Addr} {ox oy : Obj} {m : Str → Option Value} {news : Led} {vs ws : List Value} {k : Nat} {Q : Value → Shared → Prop}
    (F : Fr h₀ L s.heap m) (N : News h₀ L s.heap ((D, LCg.lst ws) :: (ax, ox) :: (aW, listOf vs.toArray k) :: (ay, oy) :: news)) (hD : ∀ p ∈ (ax, ox) :: (aW, listOf vs.toArray k) :: (ay, oy) :: news, p.1 ≠ D)
    (hx : @Ne Nat ax aW) (hy : @Ne Nat ay aW) (hW : ∀ p ∈ news, p.1 ≠ aW) (hz : vs.length + ws.length ≤ 90000)
    (h : ∀ h' c', Fr h₀ L h' m → News h₀ L h' ((D, LCg.lst ws) :: (ax, ox) :: (aW, listOf (vs ++ ws).toArray c') :: (ay, oy) :: news) → Q (.ref aW) { s with heap := h' }) :
    wpAny (model prog w) A (inplaceOp .Add (.ref aW) (.ref D)) Q E s :=
  my_iadd F N (.tail (Ne.symm (hD _ (.tail _ (.head _)))) (.tail hx (.head fun p hp => (List.mem_cons.mp hp).elim (fun e => e ▸ hy) (hW p)))) (.head _) hz h
theorem off_head {g h : Heap} {L D : Addr} {o : Obj} {rest : Led} (_N : News g L h ((D, o) :: rest)) (hl : AllLt D rest) : ∀ p ∈ rest, p.1 ≠ D := off_lt (tb_ltOf hl)
theorem off_sub {D : Addr} {q : Addr × Obj} {rest : Led} (h : ∀ p ∈ q :: rest, p.1 < D) : (∀ p ∈ rest, p.1 ≠ D) ∧ @Ne Nat q.1 D := ⟨off_lt fun p hp => h p (.tail _ hp), Nat.ne_of_lt (h q (.head _))⟩
/-- the second item of a statement's tuple is its number -/
theorem node_one {news : Led} {a : Addr} {k i : Nat} {us : List Value} (h : NodeAt news a k i us) : ∃ xs t1, (a, tup xs) ∈ news ∧ xs[(1 : Int).toNat]? = some (.int (100 + i : Nat) t1) := by
  cases h <;> exact ⟨_, _, by assumption, rfl⟩
end Mine
end

section
open PySem PySem.W PyProof.Rows PySem.Calls PySem.Spec
set_option maxRecDepth 100000
namespace Mine
noncomputable def SetSt (prog : Program) (w : World) (led : Bool) (h : Heap) (S : Addr) (xs : List Str) : Prop :=
  ∃ es ep t ss, h.get? S = some (setO es ep t) ∧ t.fits es.size = true ∧ ElemsOf (PySem.strKind prog w) es.toList ∧ StrsAre (es.toList.map (·.2)) ss ∧ ss.Nodup ∧ (∀ x, x ∈ ss ↔ x ∈ xs) ∧ t.led = led ∧ (es.size ≤ 1 ∨ t.plain = false) ∧ es.size ≤ xs.length
theorem strs_snoc {vs : List Value} {ss : List Str} (h : StrsAre vs ss) (x : Str) (t : Tok) : StrsAre (vs ++ [.str x t]) (ss ++ [x]) := by
  induction h with
  | nil => exact .cons x t .nil
  | cons k t' _ ih => exact .cons k t' ih
theorem strs_perm {vs vs' : List Value} {ss : List Str} (h : StrsAre vs ss) (p : vs'.Perm vs) : ∃ ss', StrsAre vs' ss' ∧ ss'.Perm ss := by
  have hall : ∀ v, v ∈ vs' → ∃ x t, v = .str x t := fun v hv => h.all v (p.mem_iff.mp hv)
  refine ⟨_, strsAre_map vs' hall, ?_⟩
  have := p.map strOf
  rwa [h.strs] at this
theorem strs_get {vs : List Value} {ss : List Str} (h : StrsAre vs ss) : ∀ (i : Nat) v, vs[i]? = some v → ∃ x t, ss[i]? = some x ∧ v = .str x t := by
  induction h with
  | nil => intro i v h; simp at h
  | cons k t' _ ih =>
    intro i v h
    cases i with
    | zero => exact ⟨k, t', rfl, by simpa using h.symm⟩
    | succ i => exact ih i v (by simpa using h)
theorem strs_mem {vs : List Value} {ss : List Str} (h : StrsAre vs ss) (x : Str) : x ∈ ss ↔ ∃ v ∈ vs, Value.isStrOf x v = true := by
  induction h with
  | nil => simp
  | cons k t _ ih =>
    rw [List.mem_cons, ih]
    constructor
    · rintro (rfl | ⟨v, hv, e⟩)
      · exact ⟨_, .head _, by show (x == x) = true; simp⟩
      · exact ⟨v, .tail _ hv, e⟩
    · rintro ⟨v, hv, e⟩
      rcases List.mem_cons.mp hv with rfl | hv
      · refine .inl ?_
        have e' : (k == x) = true ∨ (x == k) = true := by first | exact .inl e | exact .inr e
        rcases e' with e' | e'
        · exact (eq_of_beq e').symm
        · exact eq_of_beq e'
      · exact .inr ⟨v, hv, e⟩
section
variable {prog : Program} {w : World} {A : Around} {E : Value → Shared → Prop} {s : Shared}
theorem setSt_add {led : Bool} {S : Addr} {xs : List Str} {x : Str} {tk : Tok} {Q : Bool → Shared → Prop} (H : SetSt prog w led s.heap S xs) (hb : xs.length < 3000)
    (h : ∀ b h', Heap.SameBut S s.heap h' → SetSt prog w led h' S (xs ++ [x]) → Q b { s with heap := h' }) : wpAny (model prog w) A (setAddHashed S (.str x tk) (hashStr w x)) Q E s := by
  obtain ⟨es, ep, t, ss, ho, hf, hel, hs, hnd, hx, hl, hp, hsz⟩ := H
  have hm := fun y => strs_mem hs y
  refine add_one ho hf hel (by omega) (fun hit => ?_) fun hno es' ep' t' h' a1 a2 a3 a4 a5 a6 => ?_
  · refine h false s.heap (Heap.SameBut.refl _ _) ⟨es, ep, t, ss, ho, hf, hel, hs, hnd, fun y => ?_, hl, hp, by rw [List.length_append]; omega⟩
    rw [hx y, List.mem_append, List.mem_singleton]
    refine ⟨.inl, fun q => q.elim id fun q => ?_⟩
    subst q
    obtain ⟨e, he, hi⟩ := hit
    exact (hx _).mp ((hm _).mpr ⟨e.2, List.mem_map.mpr ⟨e, he, rfl⟩, hi⟩)
  · have hs2 := strs_snoc hs x tk
    have hp2 : (es'.toList.map (·.2)).Perm (es.toList.map (·.2) ++ [.str x tk]) := by
      have := a4.map (·.2)
      simpa using this
    obtain ⟨ss', hs', hps⟩ := strs_perm hs2 hp2
    have hxn : x ∉ ss := fun q => by
      obtain ⟨v, hv, e⟩ := (hm x).mp q
      obtain ⟨p, hp', rfl⟩ := List.mem_map.mp hv
      rw [hno p hp'] at e; cases e
    have hel' : ElemsOf (PySem.strKind prog w) es'.toList := (hel.push (knd := PySem.strKind prog w) (k := x) (x := .str x tk) (by show (x == x) = true; simp) rfl).perm a4
    have hlen : es'.size = es.size + 1 := by rw [← Array.length_toList, a4.length_eq, List.length_append, Array.length_toList]; rfl
    refine h true h' a1 ⟨es', ep', t', ss', a2, a3, hel', hs', ?_, fun y => ?_, a5.trans hl, .inr a6, by rw [hlen, List.length_append]; simp; omega⟩
    · refine hps.nodup_iff.mpr ?_
      rw [List.nodup_append]
      refine ⟨hnd, by simp, ?_⟩
      intro a ha b hb e
      rw [List.mem_singleton] at hb
      subst e; subst hb
      exact hxn ha
    · rw [hps.mem_iff, List.mem_append, List.mem_append, hx y]
end
section
variable {prog : Program} {w : World} {A : Around} {R : Result → Shared → Prop} {I : Addr} {fp wr : List Addr} {G : Array GenState → Array GenState → Prop} {n : Nat} {P : Nat → Value → Prop} {St : Nat → Shared → Prop}
theorem setS_loop (W : WalksS prog w A.in1 I fp wr G n P St) (S : Addr) (hSf : S ∉ fp) {led : Bool} (ks : List Str) (hkn : ks.length = n) (hval : ∀ i v, P i v → ∃ x t, ks[i]? = some x ∧ v = .str x t) (hb : n < 2000) :
    ∀ (k i : Nat) (s : Shared), n - i = k → i ≤ n → St i s → SetSt prog w led s.heap S (ks.take i) →
      (∀ s', Moved (S :: wr) G s s' → SetSt prog w led s'.heap S ks → R (.ok (.ret .none)) s') →
      codeAny (model prog w) A (.builtin "set.update.loop" ⟨[.ref S, .ref I], []⟩) R s := by
  have hSw : S ∉ wr := fun h => hSf (W.sub _ h)
  have hsub : ∀ b ∈ wr, b ∈ S :: wr := fun b hb => List.mem_cons_of_mem _ hb
  intro k
  induction k with
  | zero =>
    intro i s hk hi hst hS hR
    have hin : i = n := by omega
    subst hin
    refine codeAny_builtin PyProof.Rows.F.entry_set_update_loop ?_
    rw [Around.under_plainId PyProof.Rows.F.plain_set_update_loop _]
    show wpAny _ A.in1 (pyNext (.ref I) >>= _) _ _ s
    refine wpAny_bind (W.done s _ _ hst fun s' hm => ?_)
    show wpAny _ A.in1 (ret Value.none) _ _ s'
    rw [← hkn, List.take_length] at hS
    exact wpAny_pure (hR s' (hm.mono hsub) (by
      obtain ⟨es, ep, t, ss, ho, rest⟩ := hS
      exact ⟨es, ep, t, ss, hm.heap S _ hSw ho, rest⟩))
  | succ k ih =>
    intro i s hk hi hst hS hR
    have hlt : i < n := by omega
    refine codeAny_builtin PyProof.Rows.F.entry_set_update_loop ?_
    rw [Around.under_plainId PyProof.Rows.F.plain_set_update_loop _]
    show wpAny _ A.in1 (pyNext (.ref I) >>= _) _ _ s
    refine wpAny_bind (W.item i s _ _ hlt hst fun v s' hP hst' hm => ?_)
    obtain ⟨x, t, hx, rfl⟩ := hval i v hP
    have hS' : SetSt prog w led s'.heap S (ks.take i) := by
      obtain ⟨es, ep, tb, ss, ho, rest⟩ := hS
      exact ⟨es, ep, tb, ss, hm.heap S _ hSw ho, rest⟩
    show wpAny _ A.in1 (holding [Value.str x t] (setAdd S (.str x t)) >>= _) _ _ s'
    refine wpAny_bind (wpAny_holding ?_)
    unfold setAdd
    refine wpAny_holding ?_
    refine wpAny_bind ((PySem.strKind prog w).pyHash (k := x) (strKind_is _ _ _ _) ?_)
    refine setSt_add (s := { s' with toks := s'.toks + 1 }) hS' (by rw [List.length_take]; omega) fun b h' hsb hS2 => ?_
    have hSi : SetSt prog w led h' S (ks.take (i + 1)) := by
      rw [List.take_add_one, hx]; exact hS2
    refine wpAny_pure ⟨plainId_quiet PyProof.Rows.F.plain_set_update_loop _, ih (i + 1) _ (by omega) hlt (W.frame _ s' _ _ hst' (Nat.le_succ _) fun b hb o e => ?_) hSi fun s'' hm'' hS'' => ?_⟩
    · rw [hsb.2 b (fun h : b = S => hSf (by rw [← h]; exact hb))]; exact e
    · refine hR s'' (Moved.trans W.gtrans ((hm.mono hsub).then_heap (Nat.le_succ _) fun b o hb e => ?_) hm'') hS''
      rw [hsb.2 b (fun h : b = S => hb (by rw [h]; exact List.mem_cons_self))]; exact e
end
section
variable {prog : Program} {w : World} {A : Around} {E : Value → Shared → Prop} {s : Shared}
theorem setS_new (a : Value) {Q₁ : Value → Shared → Prop}
    (h : Q₁ (.ref s.heap.objs.size) { s with heap := s.heap.push (setO #[] 0 (.fresh 0 0 (!byText w))) }) :
    codeAny (model prog w) A (.call (.builtin "set.__new__") ⟨[.type "set", a], []⟩) (wants Q₁ E) s := by
  refine codeAny_of_tree ?_
  show wpAny _ A.in1 (do checkBuiltinCall "set.__new__" ⟨[.type "set", a], []⟩; again (.builtin "set.__new__" ⟨[.type "set", a], []⟩)) _ _ s
  refine wpAny_bind (wpAny_of_eq (PySem.F.newCall_set_1 a) (wpAny_pure ⟨plainId_quiet PySem.F.plain_set_new _, codeAny_builtin PySem.F.entry_set_new ?_⟩))
  rw [Around.under_plainId PySem.F.plain_set_new _]
  unfold Builtin.«set.__new__» Builtin.Frozenset.newClass
  have hsub := sub_set_self
  obtain ⟨hp, g, d, tk, os⟩ := s
  dsimp only
  wp_walk
  refine wpAny_askSetting (wpAny_pure ?_)
  dsimp only
  simp only [newObj]
  refine wpAny_bind (wpAny_alloc (wpAny_pure ?_))
  exact wpAny_pure h
set_option maxHeartbeats 3200000 in
theorem call_set_strs {l : Addr} {vs : List Value} {n : Nat} {ks : List Str} {Q : Value → Shared → Prop}
    (hh : A.handled = none) (hol' : s.heap.get? l = some (listOf vs.toArray n)) (hi : StrsAre vs ks) (hb : vs.length < 2000)
    (h : ∀ (h' : Heap) (tk : Nat), SetSt prog w (!byText w) h' s.heap.objs.size ks →
      (∀ b o, b < s.heap.objs.size → s.heap.get? b = some o → h'.get? b = some o) → Q (.ref s.heap.objs.size) { s with heap := h', toks := tk }) :
    wpAny (model prog w) A (call (.type "set") [.ref l]) Q E s := by
  obtain ⟨c, tl, hmro⟩ := PySem.F.called_set.mro
  have hmade := PySem.F.called_set.made
  have hsub := PySem.F.called_set.sub
  refine wpAny_call (codeAny_of_tree ?_)
  show wpAny _ _ (callAny (.type "set") _) _ _ _
  refine wpAny_pure ⟨Code.quiet_builtin _ (by decide +kernel), codeAny_builtin PySem.F.entry_type_call ?_⟩
  rw [Around.under_plain (weight_type_call_type "set" [.ref l] []) rfl]
  have h1 := PySem.F.called_set.notType
  have h2 := PySem.F.called_set.canCreate
  have hct := PySem.F.typeCall_set_1 (.ref l)
  repeat (any_goals (first | assumption | wp_step))
  refine codeAny_mono (setS_new (.ref l) (E := E) (Q₁ := fun obj s₁ => obj = .ref s.heap.objs.size ∧ s₁ = { s with heap := s.heap.push (setO #[] 0 (.fresh 0 0 (!byText w))) }) ⟨rfl, rfl⟩) fun r s₁ hr => ?_
  cases r with
  | error e => exact hr
  | ok fl =>
    cases fl with
    | ret obj =>
      obtain ⟨rfl, rfl⟩ := hr
      have hS : (s.heap.push (setO #[] 0 (.fresh 0 0 (!byText w)))).get? s.heap.objs.size = some (setO #[] 0 (.fresh 0 0 (!byText w))) := Heap.get?_push_size _ rfl
      have hT : Shared.TypeIs { s with heap := s.heap.push (setO #[] 0 (.fresh 0 0 (!byText w))) } (.ref s.heap.objs.size) "set" := ⟨_, hS, rfl⟩
      have hli := PySem.F.called_set.init.lookup
      have hbi := PySem.F.called_set.init.bind (.ref s.heap.objs.size)
      repeat (any_goals (first | assumption | wp_step))
      refine codeAny_mono (codeAny_call_builtin (R := wants (fun r s₂ => r = .none ∧ ∃ h' tk, s₂ = { s with heap := h', toks := tk } ∧ SetSt prog w (!byText w) h' s.heap.objs.size ks ∧
          (∀ b o, b < s.heap.objs.size → s.heap.get? b = some o → h'.get? b = some o)) E) PySem.F.called_set.init.plain PySem.F.entry_set_init (check_set_init_1 hT ?_)) fun r₂ s₂ hr₂ => ?_
      · have hol : (s.heap.push (setO #[] 0 (.fresh 0 0 (!byText w)))).get? l = some (listOf vs.toArray n) := Heap.get?_push_of_some _ hol'
        have hsls := PySem.F.sub_list_set
        have hslf := PySem.F.sub_list_frozenset
        have hne : (Value.type "list" == Value.type "dict") = false := by decide
        have hl1 : (s.heap.push (setO #[] 0 (.fresh 0 0 (!byText w)))).IsList l vs.toArray := ⟨_, hol, rfl, n, rfl⟩
        unfold Builtin.«set.__init__» noKeywords Builtin.Frozenset.updateFrom
        generalize hPI : pyIter = PI
        wp_walk
        subst hPI
        refine wpAny_pyIter_list hl1 ?_
        refine wpAny_bind (wpAny_runValue ?_)
        have hlS : l < s.heap.objs.size := Heap.lt_size hol'
        have hh3 : A.in1.in1.in1.handled = none := by simp [hh]
        have hneI : l ≠ (s.heap.push (setO #[] 0 (.fresh 0 0 (!byText w)))).objs.size := by
          rw [Heap.size_push]; exact Nat.ne_of_lt (Nat.lt_succ_of_lt hlS)
        have hSf : s.heap.objs.size ∉ [(s.heap.push (setO #[] 0 (.fresh 0 0 (!byText w)))).objs.size, l] := by
          rw [Heap.size_push]; simp only [List.mem_cons, List.mem_singleton, List.not_mem_nil, or_false, not_or]
          exact ⟨Nat.ne_of_lt (Nat.lt_succ_self _), Nat.ne_of_gt hlS⟩
        have hkn : ks.length = vs.toArray.size := by rw [List.size_toArray]; exact hi.length.symm
        refine setS_loop (led := !byText w) ((Walks.list hh3 _ l hneI vs.toArray).toS) s.heap.objs.size hSf ks hkn (fun i v hv => strs_get hi i v (by simpa using hv)) (by rw [List.size_toArray]; exact hb) (vs.toArray.size - 0) 0 _ (by omega) (Nat.zero_le _)
          ⟨⟨_, Heap.get?_push_size _ rfl, rfl, rfl⟩, (hl1.push _)⟩ ?hS0 ?hR
        case hS0 =>
          exact ⟨#[], 0, _, [], Heap.get?_push_of_some _ hS, rfl, fun e he => by simp at he, .nil, List.nodup_nil, fun x => by simp, rfl, .inl (Nat.zero_le _), Nat.zero_le _⟩
        case hR =>
          intro s' hm hS'
          obtain ⟨h', g', d', tk', os'⟩ := s'
          have eg : g' = s.gens := hm.gens
          have ed : d' = s.drawn := hm.drawn
          have eo : os' = s.os := hm.os
          subst eg; subst ed; subst eo
          show wpAny _ _ _ _ _ _
          refine wpAny_pure ?_
          show wpAny _ _ (ret Value.none) _ _ _
          refine wpAny_pure ⟨rfl, h', tk', rfl, hS', fun b o hb e => ?_⟩
          have hb1 : b ≠ s.heap.objs.size := Nat.ne_of_lt hb
          have hb2 : b ≠ (s.heap.push (setO #[] 0 (.fresh 0 0 (!byText w)))).objs.size := by
            rw [Heap.size_push]; exact Nat.ne_of_lt (Nat.lt_succ_of_lt hb)
          exact hm.heap b o (by simp only [List.mem_cons, List.mem_singleton, List.not_mem_nil, or_false, not_or]; exact ⟨hb1, hb2⟩) (Heap.get?_push_of_some _ (Heap.get?_push_of_some _ e))
      · cases r₂ with
        | error e => exact hr₂
        | ok fl₂ =>
          cases fl₂ with
          | ret r =>
            obtain ⟨rfl, h', tk, rfl, hS', hk'⟩ := hr₂
            repeat (any_goals (first | assumption | wp_step))
            exact h _ _ hS' hk'
          | _ => exact hr₂.elim
    | _ => exact hr.elim
variable {h₀ : Heap} {L : Addr} {m : Str → Option Value} {news : Led}
/-- set(l) of a list of strs of the ledger -/
theorem my_setS {l : Addr} {vs : List Value} {n : Nat} {ks : List Str} {Q : Value → Shared → Prop} (hh : A.handled = none) (F : Fr h₀ L s.heap m) (N : News h₀ L s.heap news) (hl : (l, listOf vs.toArray n) ∈ news) (hi : StrsAre vs ks) (hb : vs.length < 2000)
    (h : ∀ D h' tk es ep t ss, Fr h₀ L h' m → News h₀ L h' ((D, setO es ep t) :: news) → (∀ p ∈ news, p.1 < D) → t.fits es.size = true → StrsAre (es.toList.map (·.2)) ss → ss.Nodup → (∀ x, x ∈ ss ↔ x ∈ ks) → (byText w = false → t.led = true) → (es.size ≤ 1 ∨ t.plain = false) → Q (.ref D) { s with heap := h', toks := tk }) :
    wpAny (model prog w) A (call (.type "set") [.ref l]) Q E s := by
  refine call_set_strs hh (N _ hl).1 hi hb fun h' tk ⟨es, ep, t, ss, ho, hf, hel, hs, hnd, hx, hl', hp, _⟩ hk => ?_
  obtain ⟨oL, _, _, hL, _⟩ := F.ns
  have hLlt : L < s.heap.objs.size := Heap.lt_size hL
  refine h _ h' tk es ep t ss ⟨F.ns.at' fun o' e => hk L o' hLlt e, fun b o' e => hk b o' (Heap.lt_size (F.keep b o' e)) (F.keep b o' e), F.above⟩ (fun p hp => ?_) (fun p hp => Heap.lt_size (N p hp).1) hf hs hnd hx (fun q => by rw [hl', q]; rfl) hp
  rcases List.mem_cons.mp hp with rfl | hp
  · exact ⟨ho, Nat.ne_of_gt hLlt, next_is_new F⟩
  · exact ⟨hk _ _ (Heap.lt_size (N p hp).1) (N p hp).1, (N p hp).2.1, (N p hp).2.2⟩
/-- set(l) of a list of ints of the ledger -/
theorem my_setI {l : Addr} {vs : List Value} {n : Nat} {ns : List Int} {Q : Value → Shared → Prop} (hh : A.handled = none) (F : Fr h₀ L s.heap m) (N : News h₀ L s.heap news) (hl : (l, listOf vs.toArray n) ∈ news) (hi : IntsAre vs ns) (hb : vs.length < 200)
    (h : ∀ D h' tk o, Fr h₀ L h' m → News h₀ L h' ((D, o) :: news) → (∀ p ∈ news, p.1 < D) →
      o.SetObjOf (PySem.intKind prog w) (fun k' => (firstMet (fun i => ns.getD i 0) vs.length).any (· == k')) (firstMet (fun i => ns.getD i 0) vs.length).length → Q (.ref D) { s with heap := h', toks := tk }) :
    wpAny (model prog w) A (call (.type "set") [.ref l]) Q E s := by
  have hl' : s.heap.IsList l vs.toArray := ⟨_, (N _ hl).1, rfl, n, rfl⟩
  have hsz : vs.toArray.size = vs.length := List.size_toArray
  refine PySem.call_set_list (items := vs.toArray) (ns := ns) hh hl' (by simpa using hi) (by rw [hsz]; unfold scanBound; omega) fun h' tk hS hk => ?_
  rw [hsz] at hS
  obtain ⟨o, ho, hso⟩ := hS.objOf
  obtain ⟨oL, _, _, hL, _⟩ := F.ns
  have hLlt : L < s.heap.objs.size := Heap.lt_size hL
  refine h _ h' tk o ⟨F.ns.at' fun o' e => hk L o' hLlt e, fun b o' e => hk b o' (Heap.lt_size (F.keep b o' e)) (F.keep b o' e), F.above⟩ (fun p hp => ?_) (fun p hp => Heap.lt_size (N p hp).1) hso
  rcases List.mem_cons.mp hp with rfl | hp
  · exact ⟨ho, Nat.ne_of_gt hLlt, next_is_new F⟩
  · exact ⟨hk _ _ (Heap.lt_size (N p hp).1) (N p hp).1, (N p hp).2.1, (N p hp).2.2⟩
theorem firstMet_len (ns : List Int) (hnd : ns.Nodup) : ∀ i, i ≤ ns.length → (firstMet (fun i => ns.getD i 0) i).length = i := by
  intro i
  induction i with
  | zero => intro _; rfl
  | succ i ih =>
    intro hi
    rw [firstMet_succ, step_length, ih (by omega), if_neg]
    rw [firstMet_any]
    intro q
    obtain ⟨x, hx, e⟩ := List.any_eq_true.mp q
    obtain ⟨j, hj, rfl⟩ := List.mem_map.mp hx
    have hj := List.mem_range.mp hj
    have e := eq_of_beq e
    rw [List.getD_eq_getElem?_getD, List.getD_eq_getElem?_getD, List.getElem?_eq_getElem (by omega), List.getElem?_eq_getElem (by omega)] at e
    have := (List.getElem_inj hnd).mp e
    omega
end
end Mine
end

section
open PySem PySem.W PyProof.Rows PySem.Calls PySem.Spec PySem.SeqAt
set_option maxRecDepth 100000
namespace Mine
/-- the numbers made, in order -/
noncomputable def asc (n : Nat) : List Int := (List.range n).map fun j => ((100 + j : Nat) : Int)
theorem asc_perm (n : Nat) : (asc n).Perm (metl n 0) := by
  unfold asc metl
  rw [Nat.sub_zero, ← List.range_eq_range']
  exact (List.reverse_perm _).symm.map _
theorem asc_sorted (n : Nat) : (asc n).Pairwise (· ≤ ·) := by
  unfold asc
  rw [List.pairwise_map]
  exact List.pairwise_lt_range.imp fun h => by omega
theorem metl_runs (n : Nat) : Runs (metl n 0) := by
  right
  unfold metl
  rw [Nat.sub_zero, ← List.range_eq_range', List.pairwise_map, List.pairwise_reverse]
  exact List.pairwise_lt_range.imp fun h => by omega
theorem metl_nodup (n : Nat) : (metl n 0).Nodup := by
  refine (List.Perm.nodup_iff (asc_perm n)).mp ?_
  unfold asc
  refine List.Pairwise.map _ ?_ List.nodup_range
  intro a b h
  omega
theorem asc_len (n : Nat) : (asc n).length = n := by simp [asc]
theorem asc_runs (n : Nat) : Runs (asc n) := .inl (asc_sorted n)
theorem asc_snoc (n : Nat) : asc (n + 1) = asc n ++ [((100 + n : Nat) : Int)] := by
  unfold asc
  rw [List.range_succ, List.map_append]
  rfl
theorem Made.get {news : Led} {vs : List Value} {r : List (Nat × Nat)} (h : Made news vs r) : ∀ (i : Nat) v, vs[i]? = some v → ∃ a k j us, v = .ref a ∧ NodeAt news a k j us ∧ r[i]? = some (k, j) := by
  induction h with
  | nil => intro i v h; simp at h
  | cons h1 _ ih =>
    intro i v h
    cases i with
    | zero => simp at h; exact ⟨_, _, _, _, h.symm, h1, rfl⟩
    | succ i => exact ih i v (by simpa using h)
theorem made_at {news : Led} {vs : List Value} {t : Tr} (h : Made news vs t.post) (hk : t.ok 0 vs.length) (i : Nat) (v : Value) (hv : vs[i]? = some v) : ∃ a k us, v = .ref a ∧ NodeAt news a k i us ∧ t.post[i]? = some (k, i) := by
  obtain ⟨a, k, j, us, e, h1, h2⟩ := h.get i v hv
  have e2 := Tr.post_num hk
  have e3 : (t.post.map (·.2))[i]? = some j := by rw [List.getElem?_map, h2]; rfl
  have hi := (List.getElem?_eq_some_iff.mp hv).1
  rw [e2, List.getElem?_range' (by simpa using hi)] at e3
  obtain rfl : i = j := by simpa using e3
  exact ⟨a, k, us, e, h1, h2⟩
/-- the names that the statements made call -/
noncomputable def evs (r : List (Nat × Nat)) : List Str := (r.filter fun p => decide (p.1 < 5)).map fun p => fn5 (p.2 % 5)
theorem evs_snoc {r : List (Nat × Nat)} {i k : Nat} (h : r[i]? = some (k, i)) : evs (r.take (i + 1)) = evs (r.take i) ++ if k < 5 then [fn5 (i % 5)] else [] := by
  unfold evs
  rw [List.take_add_one, h, List.filter_append, List.map_append]
  by_cases hk : k < 5 <;> simp [hk]
theorem node_two {news : Led} {a : Addr} {k i : Nat} {us : List Value} (h : NodeAt news a k i us) : k < 16 ∧ ∃ xs t0 t1, (a, tup xs) ∈ news ∧ xs[(0 : Int).toNat]? = some (.str (kw k) t0) ∧ xs[(1 : Int).toNat]? = some (.int (100 + i : Nat) t1) := by
  cases h with
  | leaf hk => exact ⟨by omega, _, _, _, by assumption, rfl, rfl⟩
  | blk hk => exact ⟨by omega, _, _, _, by assumption, rfl, rfl⟩
  | cas => exact ⟨by omega, _, _, _, by assumption, rfl, rfl⟩
  | iff => exact ⟨by omega, _, _, _, by assumption, rfl, rfl⟩
  | rng => exact ⟨by omega, _, _, _, by assumption, rfl, rfl⟩
  | fev => exact ⟨by omega, _, _, _, by assumption, rfl, rfl⟩
  | one hk hk2 => exact ⟨by omega, _, _, _, by assumption, rfl, rfl⟩
theorem kw_any {k : Nat} (hk : k < 16) : ([Str.ofString "set", Str.ofString "nba", Str.ofString "trigger", Str.ofString "disable", Str.ofString "sys"].any fun x => x == kw k) = decide (k < 5) := by
  have : ∀ k < 16, ([Str.ofString "set", Str.ofString "nba", Str.ofString "trigger", Str.ofString "disable", Str.ofString "sys"].any fun x => x == kw k) = decide (k < 5) := by decide +kernel
  exact this k hk
theorem fn5_num (i : Nat) : Str.ofString "f" ++ Str.ofString (toString ((((100 + i : Nat) : Int) - 100).fmod 5)) = fn5 (i % 5) := by
  rw [← fn5_of i]
  have : ((100 + i : Nat) : Int) - 100 = (i : Int) := by omega
  rw [this]
theorem evs_yes {r : List (Nat × Nat)} {i k : Nat} {ys : List Value} {t : Tok} (hy : StrsAre ys (evs (r.take i))) (h : r[i]? = some (k, i)) (hk : k < 16)
    (ha : ([Str.ofString "set", Str.ofString "nba", Str.ofString "trigger", Str.ofString "disable", Str.ofString "sys"].any fun x => x == kw k) = true) :
    StrsAre (ys ++ [.str (Str.ofString "f" ++ Str.ofString (toString ((((100 + i : Nat) : Int) - 100).fmod 5))) t]) (evs (r.take (i + 1))) := by
  rw [kw_any hk] at ha
  rw [evs_snoc h, if_pos (of_decide_eq_true ha), fn5_num]
  exact strs_snoc hy _ t
theorem evs_no {r : List (Nat × Nat)} {i k : Nat} {ys : List Value} (hy : StrsAre ys (evs (r.take i))) (h : r[i]? = some (k, i)) (hk : k < 16)
    (ha : ([Str.ofString "set", Str.ofString "nba", Str.ofString "trigger", Str.ofString "disable", Str.ofString "sys"].any fun x => x == kw k) = false) :
    StrsAre ys (evs (r.take (i + 1))) := by
  rw [kw_any hk] at ha
  rw [evs_snoc h, if_neg (of_decide_eq_false ha), List.append_nil]
  exact hy
theorem in_app {tl rest : Led} {x y z p : Addr × Obj} {a : Addr} (H : p ∈ tl) (_h : ∀ q ∈ x :: y :: z :: (tl ++ rest), q.1 ≠ a) : p ∈ tl ++ rest := List.mem_append.mpr (.inl H)
section
variable {prog : Program} {w : World} {A : Around} {E : Value → Shared → Prop} {s : Shared} {h₀ : Heap} {L : Addr} {m : Str → Option Value} {news : Led}
/-- sorted(l), the outcome at hand -/
theorem my_sortedL {l : Addr} {vs : List Value} {ns ts : List Int} {n : Nat} {Q : Value → Shared → Prop} (F : Fr h₀ L s.heap m) (N : News h₀ L s.heap news) (hm : (l, listOf vs.toArray n) ∈ news) (hI : IntsAre vs ns) (hb : vs.length ≤ 200) (hr : Runs ns)
    (ht : ts.Perm ns) (hs : ts.Pairwise (· ≤ ·)) (h : ∀ D h' vs' e, (∀ p ∈ news, p.1 < D) → Fr h₀ L h' m → News h₀ L h' ((D, listOf vs'.toArray e) :: news) → IntsAre vs' ts → Q (.ref D) { s with heap := h' }) :
    wpAny (model prog w) A (call (.builtin "sorted") [.ref l]) Q E s := by
  refine my_sorted F N ⟨_, (N _ hm).1, rfl, n, rfl⟩ hI hb hr fun h' vs' ns' e F' N' hI' hp hs' => ?_
  have e1 : ns' = ts := (hp.trans ht.symm).eq_of_pairwise (le := (· ≤ ·)) (fun a b _ _ h1 h2 => Int.le_antisymm h1 h2) hs' hs
  subst e1
  exact h _ h' vs' e (fun p hp => Nat.lt_succ_of_lt (Heap.lt_size (N p hp).1)) F' N' hI'
theorem my_neInts {a b : Addr} {xs ys : List Value} {ns : List Int} {n n' : Nat} {Q : Value → Shared → Prop} (N : News h₀ L s.heap news) (ha : (a, listOf xs.toArray n) ∈ news) (hb : (b, listOf ys.toArray n') ∈ news) (hi : IntsAre xs ns) (hj : IntsAre ys ns)
    (hu : A.units + 64 < cLine) (h : Q (.bool false) s) : wpAny (model prog w) A (compareOp .NotEq (.ref a) (.ref b)) Q E s :=
  ke_ne_ints ⟨_, (N _ ha).1, rfl, n, rfl⟩ ⟨_, (N _ hb).1, rfl, n', rfl⟩ hi hj hu (by simpa using h)
/-- len(set(xs)), the items apart -/
theorem my_lenSet {sa : Addr} {o : Obj} {vs : List Value} {ns : List Int} {Q : Value → Shared → Prop} (N : News h₀ L s.heap ((sa, o) :: news)) (hi : IntsAre vs ns) (hnd : ns.Nodup) (hb : vs.length ≤ 200)
    (ho : o.SetObjOf (PySem.intKind prog w) (fun k' => (firstMet (fun i => ns.getD i 0) vs.length).any (· == k')) (firstMet (fun i => ns.getD i 0) vs.length).length)
    (h : Q (.int (vs.length : Nat) (s.toks + 1)) { s with toks := s.toks + 1 + 1 }) : wpAny (model prog w) A (call (.builtin "len") [.ref sa]) Q E s := by
  rw [firstMet_len ns hnd _ (Nat.le_of_eq hi.length)] at ho
  exact len_sl1 (own := []) N ho (by omega) h
end
end Mine
end

section
open PySem PySem.W PyProof.Rows PySem.Calls PySem.Spec
set_option maxRecDepth 100000
namespace Mine
noncomputable abbrev tvSh : TV := .tup [.str (Str.ofString "set"), .oth, .str (Str.ofString "no statement")]
theorem tv_cons {news : Led} {t : TV} {v : Value} {ts : List TV} {vs : List Value} (h : t.In news v) (g : TV.AllIn news ts vs) : TV.AllIn news (t :: ts) (v :: vs) := by rw [TV.AllIn]; exact ⟨v, vs, rfl, h, g⟩
theorem tv_nil {news : Led} : TV.AllIn news [] [] := by rw [TV.AllIn]
theorem tv_str {news : Led} (s : Str) (t : Tok) : (TV.str s).In news (.str s t) := by rw [TV.In]; exact ⟨t, rfl⟩
theorem tv_int {news : Led} (i : Int) (t : Tok) : TV.oth.In news (.int i t) := by rw [TV.In]; exact .inr ⟨i, t, rfl⟩
theorem tv_none {news : Led} : TV.oth.In news .none := by rw [TV.In]; exact .inl rfl
theorem tv_tup {news : Led} {a : Addr} {ts : List TV} {vs : List Value} (hm : (a, tup vs) ∈ news) (h : TV.AllIn news ts vs) (hl : vs.length ≤ 1000) (hh : TV.head ts) : (TV.tup ts).In news (.ref a) := by
  rw [TV.In]; exact ⟨a, vs, rfl, hm, h, hl, hh⟩
theorem head_ne {ts : List TV} (h : ts.length ≠ 4) : TV.head ts := fun e => absurd e h
theorem tv_shown {news : Led} {v : Value} (h : Shown news v) : tvSh.In news v := by
  cases h with
  | mk h => exact tv_tup h (tv_cons (tv_str _ _) (tv_cons (tv_int _ _) (tv_cons (tv_str _ _) tv_nil))) (by simp) (head_ne (by simp))
theorem sh_size : tvSh.size = 4 := by simp [tvSh, TV.size, TV.sizeAll]
theorem sh_names : tvSh.names = [] := by simp [tvSh, TV.names, TV.namesAll, TV.call]
theorem tv_rows {news : Led} {rows vs : List Value} (h : RowsAt news rows vs) : ∀ {tvs : List TV}, TV.AllIn news tvs vs → ∃ rt, TV.AllIn news rt rows ∧ TV.sizeAll rt = TV.sizeAll tvs + 6 * rows.length ∧ TV.namesAll rt = TV.namesAll tvs := by
  induction h with
  | nil => intro tvs g; exact ⟨[], tv_nil, by have := TV.allIn_length g; obtain rfl : tvs = [] := List.length_eq_zero_iff.mp this.symm; rfl, by have := TV.allIn_length g; obtain rfl : tvs = [] := List.length_eq_zero_iff.mp this.symm; rfl⟩
  | @cons p q sh v rows vs h1 h2 h3 h4 ih =>
    intro tvs g
    cases tvs with
    | nil => rw [TV.AllIn] at g; simp at g
    | cons t tvs =>
      rw [TV.AllIn] at g
      obtain ⟨v', vs', e, g1, g2⟩ := g
      obtain ⟨rfl, rfl⟩ : v = v' ∧ vs = vs' := by simpa using e
      obtain ⟨rt, k1, k2, k3⟩ := ih g2
      refine ⟨.tup [.tup [tvSh], t] :: rt, tv_cons (tv_tup h1 (tv_cons (tv_tup h2 (tv_cons (tv_shown h3) tv_nil) (by simp) (head_ne (by simp))) (tv_cons g1 tv_nil)) (by simp) (head_ne (by simp))) k1, ?_, ?_⟩
      · simp only [TV.sizeAll, TV.size, List.length_cons, k2]; omega
      · simp [TV.namesAll, TV.names, TV.call, k3]
theorem evs_app (r q : List (Nat × Nat)) : evs (r ++ q) = evs r ++ evs q := by simp [evs]
theorem evs_one_no {k i : Nat} (h : ¬ k < 5) : evs [(k, i)] = [] := by simp [evs, h]
theorem evs_one {k i : Nat} (h : k < 5) : evs [(k, i)] = [fn5 (i % 5)] := by simp [evs, h]
theorem tv_node {news : Led} {a : Addr} {k i : Nat} {us : List Value} {tvs : List TV} {r : List (Nat × Nat)} (h : NodeAt news a k i us) (g : TV.AllIn news tvs us) (hn : TV.namesAll tvs = evs r) (hr : us = [] → r = []) :
    ∃ tv : TV, tv.In news (.ref a) ∧ tv.size ≤ TV.sizeAll tvs + 40 - us.length ∧ tv.names = evs (r ++ [(k, i)]) := by
  rw [evs_app]
  cases h with
  | leaf hk h hb hc he =>
    obtain rfl := hr rfl
    refine ⟨.tup [.str _, .oth, .tup [.str _, .oth, .str _], .tup [.str _, .oth, .str _, .tup []], .oth], tv_tup h (tv_cons (tv_str _ _) (tv_cons (tv_int _ _) (tv_cons (tv_tup hb (tv_cons (tv_str _ _) (tv_cons (tv_int _ _) (tv_cons (tv_str _ _) tv_nil))) (by simp) (head_ne (by simp)))
      (tv_cons (tv_tup hc (tv_cons (tv_str _ _) (tv_cons (tv_int _ _) (tv_cons (tv_str _ _) (tv_cons (tv_tup he tv_nil (by simp) (head_ne (by simp))) tv_nil)))) (by simp) (fun _ => ⟨_, rfl, fun _ => ⟨_, rfl⟩⟩)) (tv_cons tv_none tv_nil))))) (by simp) (head_ne (by simp)), ?_, ?_⟩
    · simp only [TV.sizeAll, TV.size, List.length_nil]; omega
    · rw [evs_one hk]; simp [TV.names, TV.namesAll, TV.call, evs]
  | blk hk h hs hq hr' hl =>
    rw [evs_one_no (by omega), List.append_nil, ← hn]
    refine ⟨.tup [.str _, .oth, .oth, .tup [tvSh], .tup tvs], tv_tup h (tv_cons (tv_str _ _) (tv_cons (tv_int _ _) (tv_cons tv_none (tv_cons (tv_tup hq (tv_cons (tv_shown hs) tv_nil) (by simp) (head_ne (by simp))) (tv_cons (tv_tup hr' g (by omega) (head_ne (by rw [← TV.allIn_length g]; omega))) tv_nil))))) (by simp) (head_ne (by simp)), ?_, ?_⟩
    · simp only [TV.sizeAll, TV.size]; omega
    · have hne : tvs.length ≠ 4 := by rw [← TV.allIn_length g]; omega
      simp [TV.names, TV.namesAll, TV.call_len, hne]
  | cas h hs hr' hl hv =>
    rw [evs_one_no (by omega), List.append_nil, ← hn]
    obtain ⟨rt, k1, k2, k3⟩ := tv_rows hv g
    have hl2 : us.length ≤ 3 := by rw [← hv.length]; exact hl
    have hl3 := TV.allIn_length k1
    refine ⟨.tup [.str _, .oth, .str _, tvSh, .tup rt], tv_tup h (tv_cons (tv_str _ _) (tv_cons (tv_int _ _) (tv_cons (tv_str _ _) (tv_cons (tv_shown hs) (tv_cons (tv_tup hr' k1 (by omega) (head_ne (by omega))) tv_nil))))) (by simp) (head_ne (by simp)), ?_, ?_⟩
    · simp only [TV.sizeAll, TV.size]; omega
    · have hne : rt.length ≠ 4 := by omega
      simp [TV.names, TV.namesAll, TV.call_len, hne, k3]
  | iff h hs =>
    rw [evs_one_no (by omega), List.append_nil, ← hn]
    refine ⟨.tup (.str _ :: .oth :: tvSh :: tvs), tv_tup h (tv_cons (tv_str _ _) (tv_cons (tv_int _ _) (tv_cons (tv_shown hs) g))) (by simp) (head_ne (by have := TV.allIn_length g; simp at this ⊢; omega)), ?_, ?_⟩
    · simp only [TV.sizeAll, TV.size, List.length_cons, List.length_nil]; omega
    · have := TV.allIn_length g
      match tvs, this with
      | [_, _], _ => simp [TV.names, TV.namesAll, TV.call]
  | rng h h1 h2 hs1 hs2 hs3 hs4 hs5 =>
    rw [evs_one_no (by omega), List.append_nil, ← hn]
    refine ⟨.tup (.str _ :: .oth :: .tup [tvSh, tvSh] :: tvSh :: .tup [tvSh, tvSh] :: tvs), tv_tup h (tv_cons (tv_str _ _) (tv_cons (tv_int _ _) (tv_cons (tv_tup h1 (tv_cons (tv_shown hs1) (tv_cons (tv_shown hs2) tv_nil)) (by simp) (head_ne (by simp))) (tv_cons (tv_shown hs3)
      (tv_cons (tv_tup h2 (tv_cons (tv_shown hs4) (tv_cons (tv_shown hs5) tv_nil)) (by simp) (head_ne (by simp))) g))))) (by simp) (head_ne (by have := TV.allIn_length g; simp at this ⊢; try omega)), ?_, ?_⟩
    · simp only [TV.sizeAll, TV.size, List.length_cons, List.length_nil]; omega
    · have := TV.allIn_length g
      match tvs, this with
      | [_], _ => simp [TV.names, TV.namesAll, TV.call]
  | fev h =>
    rw [evs_one_no (by omega), List.append_nil, ← hn]
    refine ⟨.tup (.str _ :: .oth :: tvs), tv_tup h (tv_cons (tv_str _ _) (tv_cons (tv_int _ _) g)) (by simp) (head_ne (by have := TV.allIn_length g; simp at this ⊢; omega)), ?_, ?_⟩
    · simp only [TV.sizeAll, TV.size, List.length_cons, List.length_nil]; omega
    · have := TV.allIn_length g
      match tvs, this with
      | [_], _ => simp [TV.names, TV.namesAll, TV.call]
  | one hk hk2 h hs =>
    rw [evs_one_no (by omega), List.append_nil, ← hn]
    have hne : kw k ≠ Str.ofString "call" := by
      have : ∀ k < 16, kw k ≠ Str.ofString "call" := by decide +kernel
      exact this k hk2
    refine ⟨.tup (.str (kw k) :: .oth :: tvSh :: tvs), tv_tup h (tv_cons (tv_str _ _) (tv_cons (tv_int _ _) (tv_cons (tv_shown hs) g))) (by simp) (fun _ => ⟨_, rfl, fun e => absurd e hne⟩), ?_, ?_⟩
    · simp only [TV.sizeAll, TV.size, List.length_cons, List.length_nil]; omega
    · have := TV.allIn_length g
      match tvs, this with
      | [_], _ => simp [TV.names, TV.namesAll, TV.call]
mutual
theorem tv_of {news : Led} : ∀ {t : Tr} {v : Value}, t.In news v → ∃ tv : TV, tv.In news v ∧ tv.size ≤ 40 * t.post.length + 1 ∧ tv.names = evs t.post
  | .no, v, h => by
    rw [Tr.In] at h
    subst h
    exact ⟨.oth, tv_none, by simp [TV.size], by simp [TV.names, Tr.post, evs]⟩
  | .mk k i kids, v, h => by
    rw [Tr.In] at h
    obtain ⟨a, vs, rfl, h1, h2⟩ := h
    obtain ⟨tvs, g1, g2, g3⟩ := tv_all h2
    obtain ⟨tv, k1, k2, k3⟩ := tv_node h1 g1 g3 (fun e => by
      have := Tr.allIn_len h2
      subst e
      obtain rfl : kids = [] := List.length_eq_zero_iff.mp this.symm
      rfl)
    refine ⟨tv, k1, ?_, by rw [k3, Tr.post]⟩
    have := Tr.allIn_len h2
    rw [Tr.post, List.length_append, List.length_singleton]
    omega
theorem tv_all {news : Led} : ∀ {ts : List Tr} {vs : List Value}, Tr.AllIn news ts vs → ∃ tvs, TV.AllIn news tvs vs ∧ TV.sizeAll tvs ≤ 40 * (Tr.postAll ts).length + ts.length ∧ TV.namesAll tvs = evs (Tr.postAll ts)
  | [], vs, h => by
    rw [Tr.AllIn] at h
    subst h
    exact ⟨[], tv_nil, by simp [TV.sizeAll], by simp [TV.namesAll, Tr.postAll, evs]⟩
  | t :: r, vs, h => by
    rw [Tr.AllIn] at h
    obtain ⟨v, vs', rfl, h1, h2⟩ := h
    obtain ⟨tv, k1, k2, k3⟩ := tv_of h1
    obtain ⟨tvs, g1, g2, g3⟩ := tv_all h2
    refine ⟨tv :: tvs, tv_cons k1 g1, ?_, ?_⟩
    · rw [TV.sizeAll, Tr.postAll, List.length_append, List.length_cons]; omega
    · rw [TV.namesAll, Tr.postAll, evs_app, k3, g3]
end
end Mine
end

section
open PySem PySem.W PyProof.Rows PySem.Calls PySem.Spec PySem.SeqAt
set_option maxRecDepth 100000
namespace Mine
theorem cps_inj {a b : Str} (h : a.cps.toList = b.cps.toList) : a = b := by
  obtain ⟨a⟩ := a
  obtain ⟨b⟩ := b
  have := Array.toList_inj.mp h
  rw [show a = b from this]
noncomputable def leS (a b : Str) : Prop := ltCps b.cps.toList a.cps.toList = false
theorem leS_iff {a b : Str} : leS a b ↔ a.cps.toList ≤ b.cps.toList := by
  unfold leS
  rw [ltCps_eq, decide_eq_false_iff_not]
  exact Iff.rfl
theorem leS_anti {a b : Str} (h : leS a b) (g : leS b a) : a = b := cps_inj (List.le_antisymm (leS_iff.mp h) (leS_iff.mp g))
theorem leS_trans {a b c : Str} (h : leS a b) (g : leS b c) : leS a c := leS_iff.mpr (List.le_trans (leS_iff.mp h) (leS_iff.mp g))
theorem rising_pw : ∀ (l : List Str) (p : Str), risingS p l = true → (p :: l).Pairwise leS
  | [], p, _ => List.pairwise_singleton _ _
  | x :: r, p, h => by
    have h' : (!ltCps x.cps.toList p.cps.toList && risingS x r) = true := h
    rw [Bool.and_eq_true, Bool.not_eq_true'] at h'
    have ih := rising_pw r x h'.2
    refine List.pairwise_cons.mpr ⟨fun y hy => ?_, ih⟩
    rcases List.mem_cons.mp hy with rfl | hy
    · exact h'.1
    · exact leS_trans (show leS p x from h'.1) ((List.pairwise_cons.mp ih).1 y hy)
theorem sorted_pw : ∀ (l : List Str), sortedS l = true → l.Pairwise leS
  | [], _ => .nil
  | x :: r, h => rising_pw r x h
/-- two sorted lists of the same strs, each once -/
theorem sorted_one {a b a' b' : List Str} (ha : a.Nodup) (hb : b.Nodup) (hx : ∀ x, x ∈ a ↔ x ∈ b) (p : a'.Perm a) (q : b'.Perm b) (s : sortedS a' = true) (t : sortedS b' = true) : a' = b' := by
  have e : a'.Perm b' := p.trans (((List.perm_ext_iff_of_nodup ha hb).mpr hx).trans q.symm)
  exact e.eq_of_pairwise (le := leS) (fun x y _ _ h g => leS_anti h g) (sorted_pw _ s) (sorted_pw _ t)
section
variable {prog : Program} {w : World} {A : Around} {E : Value → Shared → Prop} {s : Shared} {h₀ : Heap} {L : Addr} {m : Str → Option Value} {news : Led}
theorem strs_len {vs : List Value} {ss : List Str} (h : StrsAre vs ss) : vs.length = ss.length := by
  induction h with
  | nil => rfl
  | cons _ _ _ ih => simp [ih]
/-- sorted(l) of a list of strs of the ledger -/
theorem my_sortedS {l : Addr} {vs : List Value} {ss : List Str} {n : Nat} {Q : Value → Shared → Prop} (F : Fr h₀ L s.heap m) (N : News h₀ L s.heap news) (hm : (l, listOf vs.toArray n) ∈ news) (hI : StrsAre vs ss) (hb : vs.length < 64)
    (h : ∀ D h' vs' ss' e, (∀ p ∈ news, p.1 < D) → Fr h₀ L h' m → News h₀ L h' ((D, listOf vs'.toArray e) :: news) → StrsAre vs' ss' → ss'.Perm ss → sortedS ss' = true → Q (.ref D) { s with heap := h' }) :
    wpAny (model prog w) A (call (.builtin "sorted") [.ref l]) Q E s :=
  sorted_N_str F N ⟨_, (N _ hm).1, rfl, n, rfl⟩ hI hb fun h' vs' ss' e F' N' a b c => h _ h' vs' ss' e (fun p hp => Nat.lt_succ_of_lt (Heap.lt_size (N p hp).1)) F' N' a b c
theorem my_neStrs {a b : Addr} {xs ys : List Value} {ss : List Str} {n n' : Nat} {Q : Value → Shared → Prop} (N : News h₀ L s.heap news) (ha : (a, listOf xs.toArray n) ∈ news) (hb : (b, listOf ys.toArray n') ∈ news) (hi : StrsAre xs ss) (hj : StrsAre ys ss)
    (hu : A.units < cLine) (h : Q (.bool false) s) : wpAny (model prog w) A (compareOp .NotEq (.ref a) (.ref b)) Q E s := by
  have hl : s.heap.IsList a xs.toArray := ⟨_, (N _ ha).1, rfl, n, rfl⟩
  have hl' : s.heap.IsList b ys.toArray := ⟨_, (N _ hb).1, rfl, n', rfl⟩
  refine RcNeAt.lists (e := fun _ => true) hl hl' (by rw [List.size_toArray, List.size_toArray, strs_len hi, strs_len hj]) hu (fun j j1 j2 => ?_) prog w E Q ?_
  · obtain ⟨x, t, hx, ex⟩ := strs_get hi j xs.toArray[j] (by simp)
    obtain ⟨y, u, hy, ey⟩ := strs_get hj j ys.toArray[j] (by simp)
    rw [hx] at hy
    obtain rfl := Option.some.inj hy
    rw [ex, ey]
    have := EqAt.str_str (A := A.in1) (s := s) x t x u
    simpa using this
  · rw [show (!(List.range xs.toArray.size).all fun _ => true) = false from by simp]
    exact h
end
end Mine
namespace Mine
theorem nodup_len {α : Type} [DecidableEq α] : ∀ (ks l : List α), ks.Nodup → (∀ x ∈ ks, x ∈ l) → ks.length ≤ l.length
  | [], _, _, _ => Nat.zero_le _
  | x :: r, l, hn, hs => by
    have h1 := nodup_len r (l.erase x) (List.nodup_cons.mp hn).2 fun y hy => (List.mem_erase_of_ne (by rintro rfl; exact (List.nodup_cons.mp hn).1 hy)).mpr (hs y (.tail _ hy))
    have h2 := hs x (.head _)
    have h3 := List.length_pos_of_mem h2
    rw [List.length_erase_of_mem h2] at h1
    rw [List.length_cons]; omega
theorem fn5_five : ∀ j < 5, fn5 j ∈ [Str.ofString "f0", Str.ofString "f1", Str.ofString "f2", Str.ofString "f3", Str.ofString "f4"] := by decide +kernel
theorem evs_five {r : List (Nat × Nat)} : ∀ x ∈ evs r, x ∈ [Str.ofString "f0", Str.ofString "f1", Str.ofString "f2", Str.ofString "f3", Str.ofString "f4"] := by
  intro x hx
  obtain ⟨p, _, rfl⟩ := List.mem_map.mp hx
  exact fn5_five _ (Nat.mod_lt _ (by decide))
theorem evs_few {r : List (Nat × Nat)} {ks : List Str} (hn : ks.Nodup) (hs : ∀ x ∈ ks, x ∈ evs r) : ks.length ≤ 5 := nodup_len ks _ hn fun x hx => evs_five x (hs x hx)
theorem evs_le (r : List (Nat × Nat)) : (evs r).length ≤ r.length := by
  unfold evs
  rw [List.length_map]
  exact List.length_filter_le _ _
theorem made_take {news : Led} {vs : List Value} {r : List (Nat × Nat)} (h : Made news vs r) : r.take vs.toArray.size = r := by
  rw [List.size_toArray, h.length, List.take_length]
end Mine
end

section
open PySem PySem.W PyProof.Rows PySem.Calls PySem.Spec
set_option maxRecDepth 100000
namespace Mine
/-- the signs of a text -/
noncomputable def sg (x : Str) : List Nat := x.cps.toList
theorem sg_join : ∀ ys : List Str, sg (Str.join (Str.ofString "") ys) = ys.flatMap sg
  | [] => rfl
  | [x] => by simp [Str.join]
  | x :: y :: r => by
    have ih := sg_join (y :: r)
    have e : Str.join (Str.ofString "") (x :: y :: r) = x ++ Str.ofString "" ++ Str.join (Str.ofString "") (y :: r) := rfl
    have e2 : ∀ a b : Str, sg (a ++ b) = sg a ++ sg b := fun a b => by
      show (a.cps ++ b.cps).toList = _
      rw [Array.toList_append]; rfl
    have e3 : sg (Str.ofString "") = [] := by decide +kernel
    rw [e, e2, e2, e3, ih, List.append_nil]
    rfl
/-- the words that a piece may be -/
noncomputable def wrds : List Str := [Str.ofString "a", Str.ofString "%%", Str.ofString "%d", Str.ofString "%5", Str.ofString "%m", Str.ofString "%0m", Str.ofString "m", Str.ofString "%12M", Str.ofString "% ", Str.ofString "%M", Str.ofString "7", Str.ofString "%%m", Str.ofString "x", Str.ofString " m"]
/-- the words that may stand behind an open width -/
noncomputable def nxts : List Str := [Str.ofString "%d", Str.ofString "x", Str.ofString " m"]
noncomputable def okP : List Str → Prop
  | [] => True
  | [x] => x ∈ wrds
  | x :: y :: r => x ∈ wrds ∧ (x = Str.ofString "%5" → y ∈ nxts) ∧ okP (y :: r)
theorem word_np {x : Str} (h : x ∈ wrds) (h5 : x ≠ Str.ofString "%5") (t : List Nat) : np0 (sg x ++ t) = (isMk x || np0 t) := by
  simp only [wrds, List.mem_cons, List.not_mem_nil, or_false] at h
  rcases h with h | h | h | h | h | h | h | h | h | h | h | h | h | h
  case inr.inr.inr.inl => exact absurd h h5
  all_goals
    subst h
    (first
      | (rw [show sg (Str.ofString "a") = [97] from by decide +kernel, show isMk (Str.ofString "a") = false from by decide +kernel])
      | (rw [show sg (Str.ofString "%%") = [37, 37] from by decide +kernel, show isMk (Str.ofString "%%") = false from by decide +kernel])
      | (rw [show sg (Str.ofString "%d") = [37, 100] from by decide +kernel, show isMk (Str.ofString "%d") = false from by decide +kernel])
      | (rw [show sg (Str.ofString "%m") = [37, 109] from by decide +kernel, show isMk (Str.ofString "%m") = true from by decide +kernel])
      | (rw [show sg (Str.ofString "%0m") = [37, 48, 109] from by decide +kernel, show isMk (Str.ofString "%0m") = true from by decide +kernel])
      | (rw [show sg (Str.ofString "m") = [109] from by decide +kernel, show isMk (Str.ofString "m") = false from by decide +kernel])
      | (rw [show sg (Str.ofString "%12M") = [37, 49, 50, 77] from by decide +kernel, show isMk (Str.ofString "%12M") = true from by decide +kernel])
      | (rw [show sg (Str.ofString "% ") = [37, 32] from by decide +kernel, show isMk (Str.ofString "% ") = false from by decide +kernel])
      | (rw [show sg (Str.ofString "%M") = [37, 77] from by decide +kernel, show isMk (Str.ofString "%M") = true from by decide +kernel])
      | (rw [show sg (Str.ofString "7") = [55] from by decide +kernel, show isMk (Str.ofString "7") = false from by decide +kernel])
      | (rw [show sg (Str.ofString "%%m") = [37, 37, 109] from by decide +kernel, show isMk (Str.ofString "%%m") = false from by decide +kernel])
      | (rw [show sg (Str.ofString "x") = [120] from by decide +kernel, show isMk (Str.ofString "x") = false from by decide +kernel])
      | (rw [show sg (Str.ofString " m") = [32, 109] from by decide +kernel, show isMk (Str.ofString " m") = false from by decide +kernel]))
    simp [np0, np1, isD]
theorem word5_np {y : Str} (h : y ∈ nxts) (t : List Nat) : np0 (sg (Str.ofString "%5") ++ (sg y ++ t)) = np0 t := by
  rw [show sg (Str.ofString "%5") = [37, 53] from by decide +kernel]
  simp only [nxts, List.mem_cons, List.not_mem_nil, or_false] at h
  rcases h with h | h | h
  · subst h
    rw [show sg (Str.ofString "%d") = [37, 100] from by decide +kernel]
    simp [np0, np1, isD]
  · subst h
    rw [show sg (Str.ofString "x") = [120] from by decide +kernel]
    simp [np0, np1, isD]
  · subst h
    rw [show sg (Str.ofString " m") = [32, 109] from by decide +kernel]
    simp [np0, np1, isD]
theorem nxts_mk {y : Str} (h : y ∈ nxts) : isMk y = false := by
  have : ∀ y ∈ nxts, isMk y = false := by decide +kernel
  exact this y h
theorem nxts_ne {y : Str} (h : y ∈ nxts) : y ≠ Str.ofString "%5" := by
  have : ∀ y ∈ nxts, y ≠ Str.ofString "%5" := by decide +kernel
  exact this y h
theorem okP_tail {x : Str} {r : List Str} (h : okP (x :: r)) : okP r := by
  cases r with
  | nil => trivial
  | cons y r => exact h.2.2
theorem okP_head {x : Str} {r : List Str} (h : okP (x :: r)) : x ∈ wrds := by
  cases r with
  | nil => exact h
  | cons y r => exact h.1
theorem pieces_np : ∀ (n : Nat) (xs : List Str), xs.length ≤ n → okP xs → np0 (xs.flatMap sg) = xs.any isMk
  | 0, [], _, _ => rfl
  | n + 1, [], _, _ => rfl
  | 0, _ :: _, h, _ => by simp at h
  | n + 1, x :: r, h, ok => by
    have hr : r.length ≤ n := by simpa using h
    by_cases h5 : x = Str.ofString "%5"
    · cases r with
      | nil =>
        subst h5
        decide +kernel
      | cons y r =>
        have hy := ok.2.1 h5
        subst h5
        rw [List.flatMap_cons, List.flatMap_cons, word5_np hy, pieces_np n r (by simp at hr; omega) (okP_tail (okP_tail ok)), List.any_cons, List.any_cons, nxts_mk hy,
          show isMk (Str.ofString "%5") = false from by decide +kernel]
        simp
    · rw [List.flatMap_cons, word_np (okP_head ok) h5, pieces_np n r hr (okP_tail ok), List.any_cons]
theorem ascii_w {x : Str} (h : x ∈ wrds) : (∀ c ∈ sg x, c < 128) ∧ x.length ≤ 4 := by
  have : ∀ x ∈ wrds, (∀ c ∈ sg x, c < 128) ∧ x.length ≤ 4 := by decide +kernel
  exact this x h
theorem okP_all : ∀ {xs : List Str}, okP xs → ∀ x ∈ xs, x ∈ wrds
  | [], _, _, h => nomatch h
  | y :: r, ok, x, h => by
    rcases List.mem_cons.mp h with rfl | h
    · exact okP_head ok
    · exact okP_all (okP_tail ok) x h
theorem flat_ascii {xs : List Str} (h : ∀ x ∈ xs, x ∈ wrds) : (∀ c ∈ xs.flatMap sg, c < 128) ∧ (xs.flatMap sg).length ≤ 4 * xs.length := by
  induction xs with
  | nil => simp
  | cons x r ih =>
    obtain ⟨i1, i2⟩ := ih fun y hy => h y (.tail _ hy)
    obtain ⟨j1, j2⟩ := ascii_w (h x (.head _))
    have j3 : (sg x).length = x.length := Array.length_toList
    rw [List.flatMap_cons]
    refine ⟨fun c hc => ?_, ?_⟩
    · rcases List.mem_append.mp hc with h | h
      · exact j1 c h
      · exact i1 c h
    · rw [List.length_append, List.length_cons]; omega
/-- how far the pieces are put right: those behind spot i are as they were drawn -/
noncomputable def okI (i : Nat) (xs : List Str) : Prop := (∀ x ∈ xs, x ∈ wrds) ∧ ∀ j, j < i → xs[j]? = some (Str.ofString "%5") → ∀ y, xs[j + 1]? = some y → y ∈ nxts
theorem okP_of {xs : List Str} (h1 : ∀ x ∈ xs, x ∈ wrds) (h2 : ∀ (j : Nat), xs[j]? = some (Str.ofString "%5") → ∀ y, xs[j + 1]? = some y → y ∈ nxts) : okP xs := by
  induction xs with
  | nil => trivial
  | cons x r ih =>
    have h := ih (fun y hy => h1 y (.tail _ hy)) fun j hj y hy => h2 (j + 1) (by simpa using hj) y (by simpa using hy)
    cases r with
    | nil => exact h1 x (.head _)
    | cons y r => exact ⟨h1 x (.head _), fun e => h2 0 (by simp [e]) y rfl, h⟩
theorem okI_end {xs : List Str} (h : okI (xs.length - 1) xs) : okP xs := by
  refine okP_of h.1 fun j hj y hy => ?_
  have := (List.getElem?_eq_some_iff.mp hy).1
  exact h.2 j (by omega) hj y hy
theorem okI_step {i : Nat} {xs : List Str} (h : okI i xs) (hi : i + 1 < xs.length) {x : Str} (hx : xs[i]? = some x) (hne : x ≠ Str.ofString "%5") : okI (i + 1) xs := by
  refine ⟨h.1, fun j hj e y hy => ?_⟩
  by_cases q : j = i
  · subst q
    rw [hx] at e
    exact absurd (Option.some.inj e) hne
  · exact h.2 j (by omega) e y hy
theorem okI_set {i : Nat} {xs : List Str} (h : okI i xs) {y : Str} (hx : xs[i]? = some (Str.ofString "%5")) (hy : y ∈ nxts) : okI (i + 1) (xs.set (i + 1) y) := by
  have hyw : y ∈ wrds := by
    have : ∀ y ∈ nxts, y ∈ wrds := by decide +kernel
    exact this y hy
  refine ⟨fun x hx => ?_, fun j hj e z hz => ?_⟩
  · rcases List.mem_or_eq_of_mem_set hx with h' | h'
    · exact h.1 x h'
    · exact h' ▸ hyw
  · rw [List.getElem?_set_ne (by omega)] at e
    by_cases q : j = i
    · subst q
      rw [List.getElem?_set] at hz
      simp only [if_true] at hz
      split at hz
      · cases hz; exact hy
      · cases hz
    · rw [List.getElem?_set_ne (by omega)] at hz
      exact h.2 j (by omega) e z hz
end Mine
end

section
open PySem PySem.W PyProof.Rows PySem.Calls PySem.Spec
set_option maxRecDepth 100000
namespace Mine
/-- the end of a turn of «for a, b in pairs» that changes nothing but its two names -/
noncomputable def PairEnd (h₀ : Heap) (L : Addr) (m : Str → Option Value) (xi xc : Str) (news : Led) (s₁ : Shared) (Q : Flow → Shared → Prop) (f : Flow) (s₂ : Shared) : Prop :=
  match f with
  | .ret v => Q (.ret v) s₂
  | .brk => Q .next s₂
  | _ => ∃ h' tk m', s₂ = { s₁ with heap := h', toks := tk } ∧ Fr h₀ L h' m' ∧ News h₀ L h' news ∧ ∀ z, z ≠ xi → z ≠ xc → m' z = m z
section
variable {prog : Program} {w : World} {A : Around} {E : Value → Shared → Prop} {s : Shared} {env : Env} {h₀ : Heap} {body : List Stmt} {Q : Flow → Shared → Prop}
/-- the source of «for a, b in pairs»: a list of the ledger whose items are pairs of the ledger -/
noncomputable def PairAtL (prog : Program) (w : World) (A : Around) (h₀ : Heap) (env : Env) (xi xc : Str) (body : List Stmt) (Q : Flow → Shared → Prop) (E : Value → Shared → Prop) (xv : Value) (s₁ : Shared) : Prop :=
  ∃ (l : Addr) (vs : List Value) (nn : Nat) (m : Str → Option Value) (news : Led) (P : Addr → Value → Value → Prop), xv = .ref l ∧ Fr h₀ env.locals s₁.heap m ∧ News h₀ env.locals s₁.heap news ∧ (l, listOf vs.toArray nn) ∈ news ∧ (∀ v ∈ vs, ∃ (p : Addr) (v0 v1 : Value), v = .ref p ∧ (p, tup [v0, v1]) ∈ news ∧ P p v0 v1) ∧
    (∀ (p : Addr) (v0 v1 : Value) (I : Addr) (oI : Obj) (u : Str → Option Value) h tk, P p v0 v1 → (p, tup [v0, v1]) ∈ news → (∀ q ∈ news, q.1 ≠ I) → (∀ z, z ≠ xi → z ≠ xc → u z = m z) → Fr h₀ env.locals h (fun y => if y = xc then some v1 else if y = xi then some v0 else u y) → News h₀ env.locals h ((I, oI) :: news) →
      wpAny (model prog w) A (execs body env) (PairEnd h₀ env.locals m xi xc ((I, oI) :: news) { s₁ with heap := h, toks := tk } Q) E { s₁ with heap := h, toks := tk }) ∧
    ∀ h tk u, (∀ z, z ≠ xi → z ≠ xc → u z = m z) → Fr h₀ env.locals h u → News h₀ env.locals h news → Q .next { s₁ with heap := h, toks := tk }
theorem PairAtL.intro {xi xc : Str} {l L : Addr} {vs : List Value} {nn : Nat} {m : Str → Option Value} {news : Led} (P : Addr → Value → Value → Prop) (F : Fr h₀ L s.heap m) (hL : env.locals = L) (N : News h₀ L s.heap news) (hl : (l, listOf vs.toArray nn) ∈ news)
    (hit : ∀ v ∈ vs, ∃ (p : Addr) (v0 v1 : Value), v = .ref p ∧ (p, tup [v0, v1]) ∈ news ∧ P p v0 v1)
    (step : ∀ (p : Addr) (v0 v1 : Value) (I : Addr) (oI : Obj) (u : Str → Option Value) h tk, P p v0 v1 → (p, tup [v0, v1]) ∈ news → (∀ q ∈ news, q.1 ≠ I) → (∀ z, z ≠ xi → z ≠ xc → u z = m z) → Fr h₀ L h (fun y => if y = xc then some v1 else if y = xi then some v0 else u y) → News h₀ L h ((I, oI) :: news) →
      wpAny (model prog w) A (execs body env) (PairEnd h₀ L m xi xc ((I, oI) :: news) { s with heap := h, toks := tk } Q) E { s with heap := h, toks := tk })
    (done : ∀ h tk u, (∀ z, z ≠ xi → z ≠ xc → u z = m z) → Fr h₀ L h u → News h₀ L h news → Q .next { s with heap := h, toks := tk }) :
    PairAtL prog w A h₀ env xi xc body Q E (.ref l) s := by
  subst hL
  exact ⟨l, vs, nn, m, news, P, rfl, F, N, hl, hit, step, done⟩
theorem PairAtL.elim {xi xc : Str} {xv : Value} {G : Value → Prop} (h : PairAtL prog w A h₀ env xi xc body Q E xv s)
    (k : ∀ (l : Addr) (vs : List Value) (nn : Nat) (m : Str → Option Value) (news : Led) (P : Addr → Value → Value → Prop), Fr h₀ env.locals s.heap m → News h₀ env.locals s.heap news → (l, listOf vs.toArray nn) ∈ news → (∀ v ∈ vs, ∃ (p : Addr) (v0 v1 : Value), v = .ref p ∧ (p, tup [v0, v1]) ∈ news ∧ P p v0 v1) →
      (∀ (p : Addr) (v0 v1 : Value) (I : Addr) (oI : Obj) (u : Str → Option Value) h tk, P p v0 v1 → (p, tup [v0, v1]) ∈ news → (∀ q ∈ news, q.1 ≠ I) → (∀ z, z ≠ xi → z ≠ xc → u z = m z) → Fr h₀ env.locals h (fun y => if y = xc then some v1 else if y = xi then some v0 else u y) → News h₀ env.locals h ((I, oI) :: news) →
      wpAny (model prog w) A (execs body env) (PairEnd h₀ env.locals m xi xc ((I, oI) :: news) { s with heap := h, toks := tk } Q) E { s with heap := h, toks := tk }) →
      (∀ h tk u, (∀ z, z ≠ xi → z ≠ xc → u z = m z) → Fr h₀ env.locals h u → News h₀ env.locals h news → Q .next { s with heap := h, toks := tk }) → G (.ref l)) : G xv := by
  obtain ⟨l, vs, nn, m, news, P, rfl, F, N, hl, hit, step, done⟩ := h
  exact k l vs nn m news P F N hl hit step done
set_option maxHeartbeats 3200000 in
theorem For_pairsL {xi xc : Str} {pk pv pt pos : Pos} {x1 : Nat} {iter : Expr} {m : Str → Option Value} (_F₀ : Fr h₀ env.locals s.heap m) (hh : A.handled = none)
    (hxi : env.kindOf xi = some .local) (hxc : env.kindOf xc = some .local) (hp : (env.scope.kind == .class || (env.scope.kind == .module && env.locals != env.globals)) = false)
    (h : wpAny (model prog w) A (eval iter env) (PairAtL prog w A h₀ env xi xc body Q E) E s)
    (hs : ∀ x, foldedSetIterable iter env x = pure x := by intro _; rfl)
    (hE : PassesOwn (model prog w) A env E := by passes_own) :
    wpAny (model prog w) A (exec (.For (.Tuple [.Name xi pk, .Name xc pv] x1 pt) iter body [] pos) env) Q E s := by
  refine wpAny_For (wpAny_mono h (fun xv s₁ h₁ => ?_) fun _ _ e => e) hs
  refine PairAtL.elim (G := fun xv => wpAny (model prog w) A (pyIter xv) _ _ _) h₁ ?_
  clear h₁ xv
  intro l vs nn m news P F N hl hit step done
  have hol : s₁.heap.get? l = some (listOf vs.toArray nn) := (N _ hl).1
  have hls : s₁.heap.IsList l vs.toArray := ⟨_, hol, rfl, nn, rfl⟩
  have hne : l ≠ s₁.heap.objs.size := Nat.ne_of_lt (Heap.lt_size hol)
  refine wpAny_pyIter_list hls ?_
  have hI0 : h₀.get? s₁.heap.objs.size = none := next_is_new F
  have hIL : s₁.heap.objs.size ≠ env.locals := Nat.ne_of_gt F.ns.lt
  have hnI : ∀ q ∈ news, q.1 ≠ s₁.heap.objs.size := fun q hq => Nat.ne_of_lt (Heap.lt_size (N q hq).1)
  refine codeAny_forLoop_any
    (fun k s' => ∃ h' tk m' i, s' = { s₁ with heap := h', toks := tk } ∧ h'.IsListIter s₁.heap.objs.size l i ∧ Fr h₀ env.locals h' m' ∧ News h₀ env.locals h' news ∧ (∀ z, z ≠ xi → z ≠ xc → m' z = m z) ∧ i ≤ vs.length ∧ k = vs.length + 1 - i) ?_ (vs.length + 1)
    ⟨_, s₁.toks, m, 0, rfl, ⟨_, Heap.get?_push_size _ rfl, rfl, rfl⟩, F.push _, fun p hp => ⟨Heap.get?_push_of_some _ (N p hp).1, (N p hp).2⟩, fun _ _ _ => rfl, Nat.zero_le _, rfl⟩
  rintro k s' ⟨H, tk, m', i, rfl, hit', F', N', hm', hi, rfl⟩
  have hlH : H.IsList l vs.toArray := ⟨_, (N' _ hl).1, rfl, nn, rfl⟩
  have next : ∀ h₁ : Heap, (∀ b o, b ≠ s₁.heap.objs.size → H.get? b = some o → h₁.get? b = some o) → Fr h₀ env.locals h₁ m' ∧ News h₀ env.locals h₁ news := fun h₁ hk₁ =>
    ⟨⟨F'.ns.at' fun o e => hk₁ _ o (Ne.symm hIL) e, fun b o e => hk₁ b o (fun q => by rw [q, hI0] at e; cases e) (F'.keep b o e), F'.above⟩, fun p hp => ⟨hk₁ _ _ (hnI p hp) (N' p hp).1, (N' p hp).2⟩⟩
  by_cases hlt : i < vs.length
  · obtain ⟨v, hv⟩ : ∃ v, vs[i]? = some v := ⟨_, List.getElem?_eq_getElem hlt⟩
    refine wpAny_pyNext_list_item hit' hlH (x := v) (by simpa using hv) fun h₁ hit₁ hs₁ => ?_
    obtain ⟨p, v0, v1, rfl, hpm, hP⟩ := hit v (List.mem_of_getElem? hv)
    refine letGo_listiter hit₁ ?_
    obtain ⟨F₁, N₁⟩ := next h₁ fun b o hb x => hs₁.extBut b o hb x
    have ht₁ : h₁.IsTuple p #[v0, v1] := ⟨_, (N₁ _ hpm).1, rfl, 0, rfl⟩
    refine wpAny_assign_Tuple hh ht₁ rfl rfl fun h₃ hx₃ => ?_
    replace hx₃ : Heap.ExtBut h₁.objs.size h₁ h₃ := hx₃
    have up₃ : ∀ b o, h₁.get? b = some o → h₃.get? b = some o := fun b o x => hx₃ b o (Nat.ne_of_lt (Heap.lt_size x)) x
    have F₃ := F₁.keeps up₃
    have N₃ := N₁.grown up₃
    show wpAny _ A (do holding [v1] (assign (.Name xi pk) env v0); do holding [] (assign (.Name xc pv) env v1); pure ()) _ _ _
    refine wpAny_bind (wpAny_holding (wpAny_assign_Name (wpAny_storeName_local hxi F₃.ns (fun h₄ hn₄ hs₄ => ?_) hp)))
    replace hs₄ : Heap.SameBut env.locals h₃ h₄ := hs₄
    have F₄ := F₃.set hn₄ hs₄
    refine wpAny_bind (wpAny_holding (wpAny_assign_Name (wpAny_storeName_local hxc F₄.ns (fun h₅ hn₅ hs₅ => wpAny_pure ?_) hp)))
    replace hs₅ : Heap.SameBut env.locals h₄ h₅ := hs₅
    have F₅ := F₄.set hn₅ hs₅
    have N₅ : News h₀ env.locals h₅ news := (N₃.set hs₄).set hs₅
    have hit₅ : h₅.IsListIter s₁.heap.objs.size l (i + 1) := hit₁.at fun o e => hs₅.extBut _ o hIL (hs₄.extBut _ o hIL (up₃ _ o e))
    obtain ⟨oI, hoI, rI⟩ := id hit₅
    have N₆ : News h₀ env.locals h₅ ((s₁.heap.objs.size, oI) :: news) := fun q hq => by
      rcases List.mem_cons.mp hq with rfl | hq
      · exact ⟨hoI, hIL, hI0⟩
      · exact N₅ q hq
    refine wpAny_mono (wpAny_passesOwn hE (step p v0 v1 _ oI m' h₅ _ hP hpm hnI hm' F₅ N₆)) (fun f s₃ h₆ => ?_) fun _ _ e => e
    cases f with
    | ret v => exact h₆
    | brk => exact h₆
    | cont =>
      obtain ⟨h₆', tk₆, m₂, rfl, F₆, N₇, hm₂⟩ := h₆
      exact ⟨vs.length + 1 - (i + 1), by omega, h₆', tk₆, m₂, i + 1, rfl, ⟨oI, (N₇ _ (.head _)).1, rI⟩, F₆, fun q hq => N₇ q (.tail _ hq), hm₂, hlt, rfl⟩
    | next =>
      obtain ⟨h₆', tk₆, m₂, rfl, F₆, N₇, hm₂⟩ := h₆
      exact ⟨vs.length + 1 - (i + 1), by omega, h₆', tk₆, m₂, i + 1, rfl, ⟨oI, (N₇ _ (.head _)).1, rI⟩, F₆, fun q hq => N₇ q (.tail _ hq), hm₂, hlt, rfl⟩
  · have hin : i = vs.length := by omega
    subst hin
    refine wpAny_pyNext_list_end hh hit' hlH (by simp) fun h₁ hk₁ => wpAny_execs_nil ?_
    obtain ⟨F₁, N₁⟩ := next h₁ fun b o hb x => hk₁ b o hb x
    exact done h₁ _ m' hm' F₁ N₁
end
end Mine
end

section
open PySem PySem.W PyProof.Rows PySem.Calls PySem.Spec
set_option maxRecDepth 100000
namespace Mine
theorem zip_item : ∀ (xs : List Str) (ts : List Tok) (n : Nat), n < xs.length → n < ts.length → ∃ x t, x ∈ xs ∧ (List.zipWith Value.str xs ts)[n]? = some (.str x t)
  | x :: _, t :: _, 0, _, _ => ⟨x, t, .head _, rfl⟩
  | _ :: xs, _ :: ts, n + 1, h1, h2 => (zip_item xs ts n (Nat.lt_of_succ_lt_succ h1) (Nat.lt_of_succ_lt_succ h2)).elim fun y z => z.elim fun u e => ⟨y, u, .tail _ e.1, e.2⟩
theorem word_item {t0 t1 t2 t3 t4 t5 t6 t7 t8 t9 t10 t11 : Tok} {k : Int} (h0 : 0 ≤ k) (h1 : k < 12) :
    ∃ x t, x ∈ wrds ∧ ([.str (Str.ofString "a") t0, .str (Str.ofString "%%") t1, .str (Str.ofString "%d") t2, .str (Str.ofString "%5") t3, .str (Str.ofString "%m") t4, .str (Str.ofString "%0m") t5, .str (Str.ofString "m") t6, .str (Str.ofString "%12M") t7, .str (Str.ofString "% ") t8, .str (Str.ofString "%M") t9, .str (Str.ofString "7") t10, .str (Str.ofString "%%m") t11] : List Value)[k.toNat]? = some (.str x t) :=
  zip_item wrds [t0, t1, t2, t3, t4, t5, t6, t7, t8, t9, t10, t11] k.toNat (by show k.toNat < 14; omega) (by show k.toNat < 12; omega)
theorem next_item {t0 t1 t2 : Tok} {k : Int} (h0 : 0 ≤ k) (h1 : k < 3) :
    ∃ x t, x ∈ nxts ∧ ([.str (Str.ofString "%d") t0, .str (Str.ofString "x") t1, .str (Str.ofString " m") t2] : List Value)[k.toNat]? = some (.str x t) :=
  zip_item nxts [t0, t1, t2] k.toNat (by show k.toNat < 3; omega) (by show k.toNat < 3; omega)
theorem sig_item {t0 t1 : Tok} {k : Int} (h0 : 0 ≤ k) (h1 : k < 3) :
    ∃ b t, ([.str (Str.ofString "sig") t0, .str (Str.ofString "local") t1] : List Value)[(k.fdiv 2).toNat]? = some (.str (lsw b) t) := by
  have : k = 0 ∨ k = 1 ∨ k = 2 := by omega
  rcases this with rfl | rfl | rfl
  · exact ⟨false, _, rfl⟩
  · exact ⟨false, _, rfl⟩
  · exact ⟨true, _, rfl⟩
section
variable {prog : Program} {w : World} {A : Around} {E : Value → Shared → Prop} {s : Shared} {h₀ : Heap} {L : Addr} {m : Str → Option Value} {news : Led} {env : Env}
theorem my_word {value slice : PySem.Expr} {l : Addr} {n : Nat} {k : Int} {u : Tok} {t0 t1 t2 t3 t4 t5 t6 t7 t8 t9 t10 t11 : Tok} {Q : Value → Shared → Prop}
    (N : News h₀ L s.heap news) (hm : (l, listOf ([.str (Str.ofString "a") t0, .str (Str.ofString "%%") t1, .str (Str.ofString "%d") t2, .str (Str.ofString "%5") t3, .str (Str.ofString "%m") t4, .str (Str.ofString "%0m") t5, .str (Str.ofString "m") t6, .str (Str.ofString "%12M") t7, .str (Str.ofString "% ") t8, .str (Str.ofString "%M") t9, .str (Str.ofString "7") t10, .str (Str.ofString "%%m") t11] : List Value).toArray n) ∈ news)
    (h0 : 0 ≤ k) (h1 : k < 12) (h : ∀ x t, x ∈ wrds → Q (.str x t) s)
    (hs : subscripted slice false (.ref l) (.int k u) = operate [.ref l, .int k u] (getItem (.ref l) (.int k u)) := by with_unfolding_all rfl) :
    wpAny (model prog w) A (subscriptTail value slice (.ref l) (.int k u)) Q E s := by
  obtain ⟨x, t, hx, e⟩ := word_item (t0 := t0) (t1 := t1) (t2 := t2) (t3 := t3) (t4 := t4) (t5 := t5) (t6 := t6) (t7 := t7) (t8 := t8) (t9 := t9) (t10 := t10) (t11 := t11) h0 h1
  exact my_item N hm h0 (by omega) e (h x t hx) hs
theorem my_next {value slice : PySem.Expr} {l : Addr} {n : Nat} {k : Int} {u : Tok} {t0 t1 t2 : Tok} {Q : Value → Shared → Prop}
    (N : News h₀ L s.heap news) (hm : (l, listOf ([.str (Str.ofString "%d") t0, .str (Str.ofString "x") t1, .str (Str.ofString " m") t2] : List Value).toArray n) ∈ news) (h0 : 0 ≤ k) (h1 : k < 3) (h : ∀ x t, x ∈ nxts → Q (.str x t) s)
    (hs : subscripted slice false (.ref l) (.int k u) = operate [.ref l, .int k u] (getItem (.ref l) (.int k u)) := by with_unfolding_all rfl) :
    wpAny (model prog w) A (subscriptTail value slice (.ref l) (.int k u)) Q E s := by
  obtain ⟨x, t, hx, e⟩ := next_item (t0 := t0) (t1 := t1) (t2 := t2) h0 h1
  exact my_item N hm h0 (by omega) e (h x t hx) hs
theorem my_sig {value slice : PySem.Expr} {l : Addr} {n : Nat} {k : Int} {u : Tok} {t0 t1 : Tok} {Q : Value → Shared → Prop}
    (N : News h₀ L s.heap news) (hm : (l, listOf ([.str (Str.ofString "sig") t0, .str (Str.ofString "local") t1] : List Value).toArray n) ∈ news) (h0 : 0 ≤ k) (h1 : k < 3) (h : ∀ b t, Q (.str (lsw b) t) s)
    (hs : subscripted slice false (.ref l) (.int (k.fdiv 2) u) = operate [.ref l, .int (k.fdiv 2) u] (getItem (.ref l) (.int (k.fdiv 2) u)) := by with_unfolding_all rfl) :
    wpAny (model prog w) A (subscriptTail value slice (.ref l) (.int (k.fdiv 2) u)) Q E s := by
  obtain ⟨b, t, e⟩ := sig_item (t0 := t0) (t1 := t1) h0 h1
  have h2 : 0 ≤ k.fdiv 2 ∧ k.fdiv 2 < 3 := by
    have : k = 0 ∨ k = 1 ∨ k = 2 := by omega
    rcases this with rfl | rfl | rfl <;> decide
  exact my_item N hm h2.1 (by omega) e (h b t) hs
/-- l[k] = v at a place that lies in it -/
theorem my_setIt {l : Addr} {vs : List Value} {n : Nat} {k : Int} {t : Tok} {v : Value} {g : Obj → Led} {Q : Unit → Shared → Prop} (F : Fr h₀ L s.heap m) (N : News h₀ L s.heap news) (U : UpdF l (listOf vs.toArray n) news g) (h0 : 0 ≤ k) (h1 : k < vs.length) (h2 : vs.length ≤ 1000)
    (h : ∀ h', Fr h₀ L h' m → News h₀ L h' (g (listOf (vs.set k.toNat v).toArray n)) → Q () { s with heap := h' }) : wpAny (model prog w) A (setItem (.ref l) (.int k t) v) Q E s := by
  obtain ⟨pre, post, rfl, hg, a, b⟩ := U.split
  have z := N (l, listOf vs.toArray n) (List.mem_append.mpr (.inr (.head _)))
  rw [hg] at h
  refine ki_setAt z.1 h0 (by omega) (by rw [List.size_toArray]; exact h1) (h _ (F.change (Heap.SameBut.update ..) z.2.1 z.2.2) (ki_turn _ N a b ?_ ?_))
  · show vs.toArray.setIfInBounds k.toNat v = (vs.set k.toNat v).toArray
    simp
  · simp
theorem strs_set : ∀ {vs : List Value} {ss : List Str} (h : StrsAre vs ss) (i : Nat) (x : Str) (t : Tok), StrsAre (vs.set i (.str x t)) (ss.set i x)
  | _, _, .nil, i, x, t => by simpa using StrsAre.nil
  | _, _, .cons k u hr, 0, x, t => .cons x t hr
  | _, _, .cons k u hr, i + 1, x, t => .cons k u (strs_set hr i x t)
theorem strs_at {vs : List Value} {ss : List Str} (h : StrsAre vs ss) {i : Nat} (hi : i < vs.length) : ∃ x t, vs[i]? = some (.str x t) ∧ ss[i]? = some x := by
  obtain ⟨x, t, a, b⟩ := strs_get h i vs[i] (List.getElem?_eq_getElem hi)
  exact ⟨x, t, by rw [List.getElem?_eq_getElem hi, b], a⟩
theorem range_fit {b : Int} (h0 : -1 ≤ b) (h1 : b ≤ 1000) : Builtin.Range.rangeSize 0 b 1 = ((b.toNat : Nat) : Int) ∧ Builtin.Range.small 0 b 1 = true := by
  have hsz : Builtin.Range.rangeSize 0 b 1 = ((b.toNat : Nat) : Int) := by
    unfold Builtin.Range.rangeSize
    simp
    omega
  have hf : ∀ k : Int, -1 ≤ k → k ≤ 1000 → Builtin.Range.rangeFitsLong k = true := by
    intro k h0 h1
    unfold Builtin.Range.rangeFitsLong
    simp only [Bool.and_eq_true, decide_eq_true_eq]
    omega
  refine ⟨hsz, ?_⟩
  unfold Builtin.Range.small
  rw [hsz, hf 0 (by omega) (by omega), hf b h0 h1, hf 1 (by omega) (by omega), hf (b + (1 - 1)) (by omega) (by omega), hf (b.toNat : Nat) (by omega) (by omega)]
  simp
/-- a for over range(b), b perhaps below nought, by what holds ahead of each turn -/
theorem rng_all {x : Str} {body : List Stmt} {Q : Flow → Shared → Prop} {r : Addr} {b₀ : Int} {t₀ u₀ v₀ : Tok} {m₀ : Str → Option Value} (J : Nat → (Str → Option Value) → Led → Prop)
    (hh : A.handled = none) (hr : IsRange s.heap r 0 b₀ 1 t₀ u₀ v₀) (h0 : -1 ≤ b₀) (h1 : b₀ ≤ 1000) (F : Fr h₀ env.locals s.heap m₀) (N : News h₀ env.locals s.heap news) (hj : J 0 m₀ news)
    (turn : ∀ i t m₁ news₁ h tk own, i < b₀.toNat → OwnOff own (news₁.map (·.1)) → J i m₁ news₁ → Fr h₀ env.locals h (fun y => if y = x then some (.int (i : Nat) t) else m₁ y) → News h₀ env.locals h (news₁ ++ own) →
      wpAny (model prog w) A (execs body env) (InvPostG h₀ env.locals (J (i + 1)) own { s with heap := h, toks := tk } Q) E { s with heap := h, toks := tk })
    (done : ∀ m₁ news₁ h tk, J b₀.toNat m₁ news₁ → Fr h₀ env.locals h m₁ → News h₀ env.locals h news₁ → Q .next { s with heap := h, toks := tk }) :
    wpAny (model prog w) A (pyIter (.ref r)) (fun it s₂ => LoopAtV prog w A h₀ env x body Q E it s₂) E s := by
  obtain ⟨hsz, hsmall⟩ := range_fit h0 h1
  refine wpAny_pyIter_range hr hsmall ?_
  generalize b₀.toNat = n at hsz turn done
  have W : Walks prog w A s.heap.objs.size [s.heap.objs.size] [s.heap.objs.size] n (fun i v => i < n ∧ ∃ t, v = .int (0 + i * 1) t)
      (fun i h => IsRangeIter h s.heap.objs.size (0 + (i : Nat) * 1) ((n : Int) - (i : Nat)) 1) := (Walks.range hh _ 0 1 n).bound
  refine kdr_loop J W (fun _ h => h) (fun _ h => h) ?_ ?_ ?_ ?_ (by show IsRangeIter _ _ _ _ _; rw [hsz]; simpa using Heap.get?_push_size _ rfl) (F.push _) (fun p hp => ⟨Heap.get?_push_of_some _ (N p hp).1, (N p hp).2⟩) hj ?_ ?_
  · intro i h hi b hb
    rw [List.mem_singleton.mp hb]
    exact ⟨_, hi⟩
  · intro hm
    exact absurd F.ns.lt ((List.mem_singleton.mp hm) ▸ Nat.lt_irrefl _)
  · intro b hb
    rw [List.mem_singleton.mp hb]
    exact next_is_new F
  · intro p hp hI
    exact absurd (Heap.lt_size (N p hp).1) ((List.mem_singleton.mp hI) ▸ Nat.lt_irrefl _)
  · rintro i v m₁ nx h tk own hi ⟨_, t, rfl⟩ hoff hJ F₁ N₁
    have e1 : (0 : Int) + (i : Int) * 1 = (i : Int) := by omega
    rw [e1] at F₁
    exact turn i t m₁ nx h tk own hi hoff hJ F₁ N₁
  · exact done
/-- ahead of turn i of the pieces -/
noncomputable def PcsJ (aS : Addr) (c : Addr × Obj) (i : Nat) (ys : List Value) (news : Led) : Prop :=
  ∃ vs' ns' n' ss, news = [(aS, listOf vs'.toArray n'), c] ∧ IntsAre vs' ns' ∧ vs'.length ≤ 200 ∧ StrsAre ys ss ∧ (∀ x ∈ ss, x ∈ wrds) ∧ ys.length = i
/-- ahead of turn i of the parts -/
noncomputable def PrtJ (aS : Addr) (c : Addr × Obj) (i : Nat) (ys : List Value) (news : Led) : Prop :=
  ∃ vs' ns' n' bs tl, news = (aS, listOf vs'.toArray n') :: (tl ++ [c]) ∧ IntsAre vs' ns' ∧ vs'.length ≤ 200 ∧ PartsAt tl ys bs ∧ ys.length = i ∧ (∀ p ∈ tl, p.1 ≠ aS ∧ p.1 ≠ c.1)
theorem range_src {elt : PySem.Expr} {x : Str} {scope : Scope} {cl : List (Str × Addr)} {Fin : Shared → List Value → Led → Prop} {s₁ : Shared} {r : Addr} {b : Int} {t u v : Tok} (J : Nat → List Value → Led → Prop)
    (hh : A.handled = none) (F : Fr h₀ L s₁.heap m) (N : News h₀ L s₁.heap news) (hr : IsRange s₁.heap r 0 b 1 t u v) (h0 : -1 ≤ b) (h1 : b ≤ 1000) (hJ : J 0 [] news)
    (step : ∀ g' i ys news v I oI C oC D m₂ h tk (E' : Value → Shared → Prop), i < b.toNat → J i ys news → (∃ t, v = .int (0 + (i : Int)) t) → LCg.NsObj oC m₂ → m₂ x = some v → Fr h₀ L h m → News h₀ L h ((I, oI) :: (C, oC) :: (D, LCg.lst ys) :: news) → LCg.Off3 I C D news → ((@Ne Nat I C) ∧ (@Ne Nat I D) ∧ (@Ne Nat C D)) →
      wpAny (model prog w) A (eval elt (compEnvC scope cl C env)) (LCg.CompEnd h₀ L m { ({ s₁ with heap := g' } : Shared) with heap := h, toks := tk } I oI C oC D (LCg.lst ys) (fun _ => True) (fun y news' => J (i + 1) (ys ++ [y]) news')) E' { ({ s₁ with heap := g' } : Shared) with heap := h, toks := tk })
    (fin : ∀ g' ys news, J b.toNat ys news → Fin { s₁ with heap := g' } ys news) :
    LCg.CompSrc prog w A h₀ L m env elt x scope cl Fin (.ref r) s₁ := by
  obtain ⟨hsz, hsmall⟩ := range_fit h0 h1
  refine LCg.CompSrc.range (n := b.toNat) hh F N hr hsmall hsz (by rw [sizeLine_eq]; omega) fun g' => ?_
  exact compRest_inv J (n := b.toNat) (step g') (fin g') _ 0 [] _ (by omega) hJ
theorem join_np {ys : List Value} {ss : List Str} {tx : Tok} {D : Addr} {n : Nat} {Q : Value → Shared → Prop} (N : News h₀ L s.heap news) (hm : (D, listOf ys.toArray n) ∈ news) (hi : StrsAre ys ss) (hw : ∀ x ∈ ss, x ∈ wrds) (hl : ss.length ≤ 200)
    (h : ∀ x t' k, x.cps.toList = ss.flatMap sg → x.cps.size ≤ 1000 → (∀ c ∈ x.cps.toList, c < 128) → Q (.str x t') { s with toks := k }) : wpAny (model prog w) A (call (.builtin "str.join") [.str (Str.ofString "") tx, .ref D]) Q E s := by
  have hl' : s.heap.IsList D ys.toArray := ⟨_, (N _ hm).1, rfl, n, rfl⟩
  have e : (ss.map (·.length)).sum ≤ 4 * ss.length := by
    clear hi hl h
    induction ss with
    | nil => simp
    | cons y r ih =>
      have h1 := (ascii_w (hw y (.head _))).2
      have h2 := ih fun z hz => hw z (.tail _ hz)
      rw [List.map_cons, List.sum_cons, List.length_cons]; omega
  refine join_listW hl' (by simpa using hi) (by decide +kernel) (by omega) fun t' k => ?_
  have e1 : (Txt.join (Str.ofString "") ss).cps.toList = ss.flatMap sg := by
    rw [show Txt.join (Str.ofString "") ss = Str.join (Str.ofString "") ss from PySem.StrLaws.glued_eq_join _ ss]
    exact sg_join ss
  obtain ⟨f1, f2⟩ := flat_ascii hw
  refine h _ t' k e1 ?_ (by rw [e1]; exact f1)
  rw [← Array.length_toList, e1]; omega
end
end Mine
namespace Mine
/-- ahead of turn i of the loop that puts the pieces right -/
noncomputable def SptJ (aP aS : Addr) (c : Addr × Obj) (len : Nat) (m₀ : Str → Option Value) (i : Nat) (m' : Str → Option Value) (nx : Led) : Prop :=
  ∃ vsP nP vs' ns' n' ss, nx = [(aP, listOf vsP.toArray nP), (aS, listOf vs'.toArray n'), c] ∧ StrsAre vsP ss ∧ okI i ss ∧ vsP.length = len ∧ IntsAre vs' ns' ∧ vs'.length ≤ 200 ∧ ∃ u : Str → Option Value, m' = fun z => if [Str.ofString "spot"].contains z then u z else m₀ z
theorem okI_zero {ss : List Str} (h : ∀ x ∈ ss, x ∈ wrds) : okI 0 ss := ⟨h, fun j hj => absurd hj (Nat.not_lt_zero j)⟩
theorem own_ne {own : Led} {a b c : Addr} (h : OwnOff own [a, b, c]) : (∀ p ∈ own, p.1 ≠ a) ∧ (∀ p ∈ own, p.1 ≠ b) ∧ (∀ p ∈ own, p.1 ≠ c) :=
  ⟨h.ne (.head _), h.ne (.tail _ (.head _)), h.ne (.tail _ (.tail _ (.head _)))⟩
theorem np_eq {prog : Program} {w : World} {mean : ExcName → Option Value} {mg mb : Str → Option Value} {x : Str} {tx : Tok} {news : Led} {b : Bool}
    {dp u : Nat} {gd : Option (List Code)} {cn : Str} {cs : Scope} {a : Addr} {ccd : Value} {cl : List (Str × Addr)} {outer : List Env} {A₀ : Around} {base h₀ : Heap} {L : Addr} {m : Str → Option Value} {s : Shared} {Q E : Value → Shared → Prop}
    (B : Below A₀ base outer h₀) (F : Fr h₀ L s.heap m) (X : (hd.heap_1_39 w.params).In h₀) (N : News h₀ L s.heap news) (T : Top hd.view_1_40 (looseW hd.view_1_40 [Str.ofString "GateloomError"]) mean mg mb h₀) (hk : cs.kind = .function)
    (hb : np0 x.cps.toList = b ∧ x.cps.size ≤ 1000 ∧ (∀ c ∈ x.cps.toList, c < 128)) (hd : dp + 5 < recursionLimit) (hu : u + 200 < cLine)
    (hret : ∀ h' tk', Fr h₀ L h' m → News h₀ L h' news → Q (.bool b) { s with heap := h', toks := tk' }) :
    wpAny (model prog w) (ktrTop dp u gd cn cs L a ccd cl outer) (call (.ref 68) [.str x tx]) Q E s := by
  obtain ⟨e, h1, h2⟩ := hb
  subst e
  exact np_use B F X N T hk h1 h2 hd hu hret
theorem join_ok {prog : Program} {w : World} {A : Around} {E : Value → Shared → Prop} {s : Shared} {h₀ : Heap} {L : Addr} {news : Led} {ys : List Value} {ss : List Str} {tx : Tok} {D : Addr} {n : Nat} {Q : Value → Shared → Prop} (N : News h₀ L s.heap news) (hm : (D, listOf ys.toArray n) ∈ news) (hi : StrsAre ys ss) (ho : okP ss) (hl : ys.length ≤ 200)
    (h : ∀ x t' k, np0 x.cps.toList = ss.any isMk ∧ x.cps.size ≤ 1000 ∧ (∀ c ∈ x.cps.toList, c < 128) → Q (.str x t') { s with toks := k }) : wpAny (model prog w) A (call (.builtin "str.join") [.str (Str.ofString "") tx, .ref D]) Q E s :=
  join_np N hm hi (okP_all ho) (by rw [← strs_len hi]; exact hl) fun x t' k e h1 h2 => h x t' k ⟨by rw [e]; exact pieces_np _ _ (Nat.le_refl _) ho, h1, h2⟩
end Mine
namespace Mine
theorem frL {g g2 h h2 : Heap} {L1 L2 : Addr} {m m2 : Str → Option Value} (F : Fr g L1 h m) (_F0 : Fr g2 L2 h2 m2) (e : L1 = L2) : Fr g L2 h m := e ▸ F
theorem newsL {g g2 h h2 : Heap} {L1 L2 : Addr} {m2 : Str → Option Value} {l : Led} (N : News g L1 h l) (_F0 : Fr g2 L2 h2 m2) (e : L1 = L2) : News g L2 h l := e ▸ N
end Mine
namespace Mine
theorem spt_set {h₀ h' : Heap} {L aP aS l : Addr} {o : Obj} {c : Addr × Obj} {own : Led} {len i nP n' tk : Nat} {m₀ m' : Str → Option Value} {vsP vs' : List Value} {ss : List Str} {ns' : List Int} {y : Str} {t : Tok} {s₁ : Shared}
    (F : Fr h₀ L h' m') (N : News h₀ L h' ((l, o) :: (aP, listOf (vsP.set (i + 1) (.str y t)).toArray nP) :: (aS, listOf vs'.toArray n') :: c :: own))
    (q1 : StrsAre vsP ss) (q2 : okI i ss) (hx : ss[i]? = some (Str.ofString "%5")) (hy : y ∈ nxts) (q3 : vsP.length = len) (q4 : IntsAre vs' ns') (q5 : vs'.length ≤ 200) (hoff : OwnOff own [aP, aS, c.1])
    (hm : ∀ z, [Str.ofString "spot"].contains z = false → m' z = m₀ z) :
    InvEndG h₀ L (SptJ aP aS c len m₀ (i + 1)) own s₁ { s₁ with heap := h', toks := tk } := by
  refine InvEndG.intro (nx := [(aP, listOf (vsP.set (i + 1) (.str y t)).toArray nP), (aS, listOf vs'.toArray n'), c]) F N ⟨_, _, _, _, _, _, rfl, strs_set q1 (i + 1) y t, okI_set q2 hx hy, by rw [List.length_set, q3], q4, q5, st_end hm⟩ hoff ?_ ?_
  · exact fun p hp => .tail _ (by
      simp only [List.mem_cons, List.not_mem_nil, or_false] at hp
      rcases hp with rfl | rfl | rfl
      · exact .head _
      · exact .tail _ (.head _)
      · exact .tail _ (.tail _ (.head _)))
  · exact fun p hp => .tail _ (.tail _ (.tail _ (.tail _ hp)))
theorem spt_keep {h₀ h' : Heap} {L aP aS : Addr} {c : Addr × Obj} {own : Led} {len i nP n' tk : Nat} {m₀ m' : Str → Option Value} {vsP vs' : List Value} {ss : List Str} {ns' : List Int} {s₁ : Shared}
    (F : Fr h₀ L h' m') (N : News h₀ L h' ((aP, listOf vsP.toArray nP) :: (aS, listOf vs'.toArray n') :: c :: own))
    (q1 : StrsAre vsP ss) (q2 : okI (i + 1) ss) (q3 : vsP.length = len) (q4 : IntsAre vs' ns') (q5 : vs'.length ≤ 200) (hoff : OwnOff own [aP, aS, c.1])
    (hm : ∀ z, [Str.ofString "spot"].contains z = false → m' z = m₀ z) :
    InvEndG h₀ L (SptJ aP aS c len m₀ (i + 1)) own s₁ { s₁ with heap := h', toks := tk } := by
  refine InvEndG.intro (nx := [(aP, listOf vsP.toArray nP), (aS, listOf vs'.toArray n'), c]) F N ⟨_, _, _, _, _, _, rfl, q1, q2, q3, q4, q5, st_end hm⟩ hoff ?_ ?_
  · exact fun p hp => (by
      simp only [List.mem_cons, List.not_mem_nil, or_false] at hp
      rcases hp with rfl | rfl | rfl
      · exact .head _
      · exact .tail _ (.head _)
      · exact .tail _ (.tail _ (.head _)))
  · exact fun p hp => .tail _ (.tail _ (.tail _ hp))
end Mine
namespace Mine
theorem PartsAt.mono {news news' : Led} (hs : ∀ p ∈ news, p ∈ news') {vs : List Value} {bs : List Bool} (h : PartsAt news vs bs) : PartsAt news' vs bs := by
  induction h with
  | nil => exact .nil
  | cons h1 _ ih => exact .cons (hs _ h1) ih
theorem PartsAt.snoc {news : Led} {vs : List Value} {bs : List Bool} {p : Addr} {b : Bool} {t : Tok} {rs : List Value} (h : PartsAt news vs bs) (hm : (p, tup (.str (lsw b) t :: rs)) ∈ news) : PartsAt news (vs ++ [.ref p]) (bs ++ [b]) := by
  induction h with
  | nil => exact .cons hm .nil
  | cons h1 _ ih => exact .cons h1 ih
theorem prt_end {h₀ h' : Heap} {L aS p q l I C D : Addr} {oI oC oS oq ol : Obj} {c : Addr × Obj} {tl : Led} {i n' tk : Nat} {m : Str → Option Value} {ys vs' rs : List Value} {ns' : List Int} {bs : List Bool} {b : Bool} {t : Tok} {s₁ : Shared}
    (F : Fr h₀ L h' m) (N : News h₀ L h' ((p, tup (.str (lsw b) t :: rs)) :: (q, oq) :: (l, ol) :: (I, oI) :: (C, oC) :: (D, LCg.lst ys) :: (aS, listOf vs'.toArray n') :: (tl ++ [c])))
    (off : LCg.Off3 I C D ((aS, oS) :: (tl ++ [c]))) (hp : (@Ne Nat p I) ∧ (@Ne Nat p C) ∧ (@Ne Nat p D)) (hpS : @Ne Nat p aS) (hpc : @Ne Nat p c.1)
    (j1 : IntsAre vs' ns') (j2 : vs'.length ≤ 200) (j3 : PartsAt tl ys bs) (j4 : ys.length = i) (j5 : ∀ p ∈ tl, p.1 ≠ aS ∧ p.1 ≠ c.1) :
    LCg.CompEnd h₀ L m s₁ I oI C oC D (LCg.lst ys) (fun _ => True) (fun y news' => PrtJ aS c (i + 1) (ys ++ [y]) news') (.ref p) { s₁ with heap := h', toks := tk } := by
  refine LCg.CompEnd.intro (S := fun _ => True) F N ((aS, listOf vs'.toArray n') :: (((p, tup (.str (lsw b) t :: rs)) :: tl) ++ [c])) mv_prt ?_ trivial ⟨vs', ns', n', bs ++ [b], _, rfl, j1, j2, PartsAt.snoc (j3.mono fun x hx => .tail _ hx) (.head _), by simp [j4], ?_⟩
  · refine ⟨off.1, hp, off.2⟩
  · intro x hx
    rcases List.mem_cons.mp hx with rfl | hx
    · exact ⟨hpS, hpc⟩
    · exact j5 x hx
theorem prt_off {tl : Led} {aS : Addr} {c : Addr × Obj} (h : ∀ p ∈ tl, p.1 ≠ aS ∧ p.1 ≠ c.1) (hc : @Ne Nat c.1 aS) : (∀ p ∈ tl ++ [c], p.1 ≠ aS) ∧ ∀ p ∈ tl, p.1 ≠ c.1 :=
  ⟨fun p hp => (List.mem_append.mp hp).elim (fun q => (h p q).1) fun q => List.mem_singleton.mp q ▸ hc, fun p hp => (h p hp).2⟩
theorem PartsAt.at {news : Led} {vs : List Value} {bs : List Bool} (h : PartsAt news vs bs) (i : Nat) (v : Value) (hv : vs[i]? = some v) : ∃ (p : Addr) (b : Bool) (t : Tok) (xs : List Value), v = .ref p ∧ bs[i]? = some b ∧ (p, tup xs) ∈ news ∧ xs[(0 : Int).toNat]? = some (.str (lsw b) t) := by
  obtain ⟨p, b, t, rest, e1, e2, e3⟩ := h.get i v hv
  exact ⟨p, b, t, _, e1, e2, e3, rfl⟩
theorem lsw_any (bs : List Bool) : (bs.map lsw).any (· == Str.ofString "local") = bs.any id := by
  rw [List.any_map]
  congr 1
  funext b
  cases b <;> decide +kernel
theorem lsw_take {bs : List Bool} {i : Nat} {b : Bool} (h : bs[i]? = some b) : (bs.take (i + 1)).map lsw = (bs.take i).map lsw ++ [lsw b] := by
  rw [List.take_add_one, h]; simp
/-- what stands behind the pieces: the stack and the cell -/
theorem sweep3 {g h : Heap} {L : Addr} {a S c : Addr × Obj} (N : News g L h [a, S, c]) : News g L h [S, c] := newsSub N fun _ hp => .tail _ hp
end Mine
namespace Mine
theorem in_parts {prog : Program} {w : World} {A : Around} {E : Value → Shared → Prop} {s : Shared} {h₀ : Heap} {L : Addr} {news : Led} {l : Addr} {vs : List Value} {bs : List Bool} {n : Nat} {t : Tok} {Q : Value → Shared → Prop} (N : News h₀ L s.heap news) (hm : (l, listOf vs.toArray n) ∈ news) (hi : StrsAre vs (bs.map lsw))
    (h : Q (.bool (bs.any id)) s) : wpAny (model prog w) A (compareOp .In (.str (Str.ofString "local") t) (.ref l)) Q E s :=
  in_list_strs ⟨_, (N _ hm).1, rfl, n, rfl⟩ hi (by rw [lsw_any]; exact h)
end Mine
namespace Mine
theorem in_app1 {tl rest : Led} {x p : Addr × Obj} {a : Addr} (H : p ∈ tl) (_h : ∀ q ∈ x :: (tl ++ rest), q.1 ≠ a) : p ∈ tl ++ rest := List.mem_append.mpr (.inl H)
end Mine
end

section
open PySem PySem.W PyProof.Rows PySem.Calls PySem.Spec
set_option maxRecDepth 100000
namespace Mine
noncomputable def InP (news : Led) (p : Addr) (v0 v1 : Value) : Prop := ∃ a l k i n us, v0 = .ref a ∧ v1 = .ref l ∧ NodeAt news a k i us ∧ (l, listOf (us.filter isSome).toArray n) ∈ news ∧ (∀ u ∈ us, u = .none ∨ ∃ b, u = .ref b)
theorem InP.elim {news : Led} {p : Addr} {v0 v1 : Value} {P : Value → Value → Prop} (z : InP news p v0 v1)
    (k : ∀ a l k i n us, NodeAt news a k i us → (l, listOf (us.filter isSome).toArray n) ∈ news → (∀ u ∈ us, u = .none ∨ ∃ b, u = .ref b) → P (.ref a) (.ref l)) : P v0 v1 := by
  obtain ⟨a, l, k', i, n, us, rfl, rfl, e3, e4, e5⟩ := z
  exact k a l k' i n us e3 e4 e5
/-- what stands at the law behind _law_tree -/
theorem inside_get {news : Led} {vs : List Value} (h : Inside news vs) : ∀ v ∈ vs, ∃ (p : Addr) (a l : Addr) (k i n : Nat) (us : List Value), v = .ref p ∧ (p, tup [.ref a, .ref l]) ∈ news ∧ NodeAt news a k i us ∧ (l, listOf (us.filter isSome).toArray n) ∈ news ∧ (∀ u ∈ us, u = .none ∨ ∃ b, u = .ref b) := by
  induction h with
  | nil => intro v h; simp at h
  | cons h1 h2 h3 hu _ ih =>
    intro v h
    rcases List.mem_cons.mp h with rfl | h
    · exact ⟨_, _, _, _, _, _, _, rfl, h1, h2, h3, hu⟩
    · exact ih v h
theorem refs_of {us : List Value} (H : ∀ u ∈ us, u = .none ∨ ∃ b, u = .ref b) : ∀ u ∈ us.filter isSome, ∃ c, u = .ref c := by
  intro u hu
  rcases H u (List.mem_filter.mp hu).1 with rfl | h
  · have := (List.mem_filter.mp hu).2
    simp [isSome] at this
  · exact h
section
variable {prog : Program} {w : World} {A : Around} {E : Value → Shared → Prop} {s : Shared} {env : Env} {h₀ : Heap} {body : List Stmt} {Q : Flow → Shared → Prop} {L : Addr}
theorem pair_in {tl : Led} {xi xc : Str} {l : Addr} {vs : List Value} {nn : Nat} {m : Str → Option Value} {news : Led} (hT : Inside tl vs) (F : Fr h₀ L s.heap m) (hL : env.locals = L) (N : News h₀ L s.heap news) (hl : (l, listOf vs.toArray nn) ∈ news)
    (hs : ∀ p ∈ tl, p ∈ news)
    (step : ∀ (p a b : Addr) (k i n : Nat) (us : List Value) (I : Addr) (oI : Obj) (u : Str → Option Value) h tk, NodeAt news a k i us → (b, listOf (us.filter isSome).toArray n) ∈ news → (∀ u ∈ us.filter isSome, ∃ c, u = .ref c) → (∀ q ∈ news, q.1 ≠ I) → (∀ z, z ≠ xi → z ≠ xc → u z = m z) →
      Fr h₀ L h (fun y => if y = xc then some (.ref b) else if y = xi then some (.ref a) else u y) → News h₀ L h ((I, oI) :: news) →
      wpAny (model prog w) A (execs body env) (PairEnd h₀ L m xi xc ((I, oI) :: news) { s with heap := h, toks := tk } Q) E { s with heap := h, toks := tk })
    (done : ∀ h tk (u : Str → Option Value), Fr h₀ L h (fun z => if [xi, xc].contains z then u z else m z) → News h₀ L h news → Q .next { s with heap := h, toks := tk }) :
    PairAtL prog w A h₀ env xi xc body Q E (.ref l) s := by
  refine PairAtL.intro (InP tl) F hL N hl (fun v hv => ?_) ?_ ?_
  · obtain ⟨p, a, l, k, i, n, us, e1, e2, e3, e4, e5⟩ := inside_get hT v hv
    exact ⟨p, .ref a, .ref l, e1, hs _ e2, a, l, k, i, n, us, rfl, rfl, e3, e4, e5⟩
  · intro p v0 v1 I oI u h tk z _ hI hu
    exact z.elim (P := fun v0 v1 => Fr h₀ L h (fun y => if y = xc then some v1 else if y = xi then some v0 else u y) → News h₀ L h ((I, oI) :: news) → wpAny (model prog w) A (execs body env) (PairEnd h₀ L m xi xc ((I, oI) :: news) { s with heap := h, toks := tk } Q) E { s with heap := h, toks := tk })
      fun a l k i n us e3 e4 e5 => step p a l k i n us I oI u h tk (e3.mono hs) (hs _ e4) (refs_of e5) hI hu
  · intro h tk u hu F N
    obtain ⟨u', rfl⟩ := st_end (stored := [xi, xc]) (m' := u) (m₀ := m) (fun z hz => hu z (fun e => by subst e; simp at hz) (fun e => by subst e; simp at hz))
    exact done h tk u' F N
end
section
variable {prog : Program} {w : World} {A : Around} {h₀ : Heap} {L : Addr} {m : Str → Option Value} {env : Env} {ct elt : PySem.Expr} {x : Str} {scope : Scope} {cl : List (Str × Addr)} {s : Shared} {S : Led → Prop} {P : Nat → Value → Prop} {Fin : List Value → Led → Prop}
/-- compRest_inv, the ledger standing still -/
theorem compRest_fix (J : Nat → List Value → Prop) {n : Nat} {news : Led}
    (step : ∀ i ys v I oI C oC D m₂ h tk (E' : Value → Shared → Prop), i < n → J i ys → P i v → LCg.NsObj oC m₂ → m₂ x = some v → Fr h₀ L h m → News h₀ L h ((I, oI) :: (C, oC) :: (D, LCg.lst ys) :: news) → LCg.Off3 I C D news → ((@Ne Nat I C) ∧ (@Ne Nat I D) ∧ (@Ne Nat C D)) →
      wpAny (model prog w) A (eval elt (compEnvC scope cl C env)) (LCg.CompEnd h₀ L m { s with heap := h, toks := tk } I oI C oC D (LCg.lst ys) S (fun y news' => J (i + 1) (ys ++ [y]) ∧ news' = news)) E' { s with heap := h, toks := tk })
    (fin : ∀ ys, J n ys → Fin ys news) (h0 : J 0 []) : LCg.CompRest prog w A h₀ L m env elt x scope cl s S P Fin n 0 [] news :=
  compRest_inv (fun i ys nw => J i ys ∧ nw = news) (fun i ys nw v I oI C oC D m₂ h tk E' hi ⟨hy, e⟩ => by subst e; exact step i ys v I oI C oC D m₂ h tk E' hi hy) (fun ys nw ⟨hy, e⟩ => by subst e; exact fin ys hy) n 0 [] _ (Nat.zero_add _) ⟨h0, rfl⟩
theorem compRestT_fix (J : Nat → List Value → Prop) {n : Nat} {news : Led}
    (step : ∀ i ys v I oI C oC D m₂ h tk (E' : Value → Shared → Prop), i < n → J i ys → P i v → LCg.NsObj oC m₂ → m₂ x = some v → Fr h₀ L h m → News h₀ L h ((I, oI) :: (C, oC) :: (D, LCg.lst ys) :: news) → LCg.Off3 I C D news → ((@Ne Nat I C) ∧ (@Ne Nat I D) ∧ (@Ne Nat C D)) →
      wpAny (model prog w) A (isTrue ct (compEnvC scope cl C env) (eval ct (compEnvC scope cl C env))) (fun ok s' => if ok = true then
        wpAny (model prog w) A (eval elt (compEnvC scope cl C env)) (LCg.CompEnd h₀ L m { s with heap := h, toks := tk } I oI C oC D (LCg.lst ys) S (fun y news' => J (i + 1) (ys ++ [y]) ∧ news' = news)) E' s'
        else LCg.CompEnd h₀ L m { s with heap := h, toks := tk } I oI C oC D (LCg.lst ys) S (fun _ news' => J (i + 1) ys ∧ news' = news) Value.none s') E' { s with heap := h, toks := tk })
    (fin : ∀ ys, J n ys → Fin ys news) (h0 : J 0 []) : LCt.CompRestT prog w A h₀ L m env ct elt x scope cl s S P Fin n 0 [] news :=
  compRestT_inv (fun i ys nw => J i ys ∧ nw = news) (fun i ys nw v I oI C oC D m₂ h tk E' hi ⟨hy, e⟩ => by subst e; exact step i ys v I oI C oC D m₂ h tk E' hi hy) (fun ys nw ⟨hy, e⟩ => by subst e; exact fin ys hy) n 0 [] _ (Nat.zero_add _) ⟨h0, rfl⟩
end
theorem node_c1 {news : Led} {a : Addr} {k i : Nat} {us : List Value} (h : NodeAt news a k i us) {G : Prop} (g : ∀ xs t1, (a, tup xs) ∈ news → xs[(1 : Int).toNat]? = some (.int (100 + i : Nat) t1) → G) : G := by
  obtain ⟨xs, t1, h1, h2⟩ := node_one h
  exact g xs t1 h1 h2
theorem made_c1 {tl news : Led} {vs : List Value} {t : Tr} (h : Made tl vs t.post) (hk : t.ok 0 vs.length) {i : Nat} {v : Value} {m₂ : Str → Option Value} {x : Str} (hv : vs.toArray[i]? = some v) (hx : m₂ x = some v) (hs : ∀ p ∈ tl, p ∈ news) {G : Prop}
    (g : ∀ a xs t1, m₂ x = some (.ref a) → (a, tup xs) ∈ news → xs[(1 : Int).toNat]? = some (.int (100 + i : Nat) t1) → G) : G := by
  obtain ⟨a, k, us, rfl, hn, _⟩ := made_at h hk i v (by simpa using hv)
  obtain ⟨xs, t1, hxm, hx1⟩ := node_one hn
  exact g a xs t1 hx (hs _ hxm) hx1
theorem made_c2 {tl news : Led} {vs : List Value} {t : Tr} (h : Made tl vs t.post) (hk : t.ok 0 vs.length) {i : Nat} {v : Value} {m₂ : Str → Option Value} {x : Str} (hv : vs.toArray[i]? = some v) (hx : m₂ x = some v) (hs : ∀ p ∈ tl, p ∈ news) {G : Prop}
    (g : ∀ a k xs t0 t1, m₂ x = some (.ref a) → k < 16 → t.post[i]? = some (k, i) → (a, tup xs) ∈ news → xs[(0 : Int).toNat]? = some (.str (kw k) t0) → xs[(1 : Int).toNat]? = some (.int (100 + i : Nat) t1) → G) : G := by
  obtain ⟨a, k, us, rfl, hn, hp⟩ := made_at h hk i v (by simpa using hv)
  obtain ⟨h16, xs, t0, t1, hxm, hx0, hx1⟩ := node_two hn
  exact g a k xs t0 t1 hx h16 hp (hs _ hxm) hx0 hx1
theorem tv_c {g h : Heap} {L : Addr} {x1 x2 x3 x4 : Addr × Obj} {tl rest : Led} {t : Tr} {v : Value} (H : t.In tl v) (_N : News g L h (x1 :: x2 :: x3 :: x4 :: (tl ++ rest))) {G : Prop} (k : ∀ tv : TV, tv.In (x1 :: x2 :: x3 :: x4 :: (tl ++ rest)) v → tv.size ≤ 40 * t.post.length + 1 → tv.names = evs t.post → G) : G := by
  obtain ⟨tv, h1, h2, h3⟩ := tv_of (H.mono fun p hp => .tail _ (.tail _ (.tail _ (.tail _ (List.mem_append.mpr (.inl hp))))))
  exact k tv h1 h2 h3
theorem strs_c {vs : List Value} {ss : List Str} (h : StrsAre vs ss) {i : Nat} (hi : i < vs.length) {G : Prop} (g : ∀ x t, vs[((i : Nat) : Int).toNat]? = some (.str x t) → ss[i]? = some x → G) : G := by
  obtain ⟨x, t, h1, h2⟩ := strs_at h hi
  exact g x t h1 h2
theorem parts_c {tl news : Led} {vs : List Value} {bs : List Bool} (h : PartsAt tl vs bs) {i : Nat} {v : Value} {m₂ : Str → Option Value} {x : Str} (hv : vs.toArray[i]? = some v) (hx : m₂ x = some v) (hs : ∀ p ∈ tl, p ∈ news) {G : Prop}
    (g : ∀ p b t xs, m₂ x = some (.ref p) → bs[i]? = some b → (p, tup xs) ∈ news → xs[(0 : Int).toNat]? = some (.str (lsw b) t) → G) : G := by
  obtain ⟨p, b, t, xs, rfl, h1, h2, h3⟩ := h.at i v (by simpa using hv)
  exact g p b t xs hx h1 (hs _ h2) h3
section
variable {prog : Program} {w : World} {A : Around} {E : Value → Shared → Prop} {s : Shared} {env : Env} {h₀ : Heap} {L : Addr} {news : Led} {m : Str → Option Value}
theorem pcs_src {elt : PySem.Expr} {x : Str} {scope : Scope} {cl : List (Str × Addr)} {Fin : Shared → List Value → Led → Prop} {s₁ : Shared} {r aS ac : Addr} {oc : Obj} {b : Int} {t u v : Tok} {vs0 : List Value} {ns0 : List Int} {n0 : Nat}
    (hh : A.handled = none) (F : Fr h₀ L s₁.heap m) (N : News h₀ L s₁.heap [(aS, listOf vs0.toArray n0), (ac, oc)]) (hr : IsRange s₁.heap r 0 b 1 t u v) (h0 : -1 ≤ b) (h1 : b ≤ 1000) (hi : IntsAre vs0 ns0) (hl : vs0.length ≤ 200)
    (step : ∀ g' i ys vs' ns' n' ss v I oI C oC D m₂ h tk (E' : Value → Shared → Prop), i < b.toNat → IntsAre vs' ns' → vs'.length ≤ 200 → StrsAre ys ss → (∀ x ∈ ss, x ∈ wrds) → ys.length = i → (∃ t, v = .int (0 + (i : Int)) t) → LCg.NsObj oC m₂ → m₂ x = some v → Fr h₀ L h m →
      News h₀ L h ((I, oI) :: (C, oC) :: (D, LCg.lst ys) :: [(aS, listOf vs'.toArray n'), (ac, oc)]) → LCg.Off3 I C D [(aS, listOf vs'.toArray n'), (ac, oc)] → (@Ne Nat aS I) → (@Ne Nat aS C) → (@Ne Nat aS D) → (@Ne Nat ac I) → (@Ne Nat ac C) → (@Ne Nat ac D) → ((@Ne Nat I C) ∧ (@Ne Nat I D) ∧ (@Ne Nat C D)) →
      wpAny (model prog w) A (eval elt (compEnvC scope cl C env)) (LCg.CompEnd h₀ L m { ({ s₁ with heap := g' } : Shared) with heap := h, toks := tk } I oI C oC D (LCg.lst ys) (fun _ => True) (fun y news' => PcsJ aS (ac, oc) (i + 1) (ys ++ [y]) news')) E' { ({ s₁ with heap := g' } : Shared) with heap := h, toks := tk })
    (fin : ∀ g' ys vs' ns' n' ss, IntsAre vs' ns' → vs'.length ≤ 200 → StrsAre ys ss → (∀ x ∈ ss, x ∈ wrds) → ys.length = b.toNat → Fin { s₁ with heap := g' } ys [(aS, listOf vs'.toArray n'), (ac, oc)]) :
    LCg.CompSrc prog w A h₀ L m env elt x scope cl Fin (.ref r) s₁ :=
  range_src (PcsJ aS (ac, oc)) hh F N hr h0 h1 ⟨_, _, _, [], rfl, hi, hl, .nil, by simp, rfl⟩ (fun g' i ys news v I oI C oC D m₂ h tk E' hi' J hP hC hx F N off ne => by
    obtain ⟨vs', ns', n', ss, rfl, j1, j2, j3, j4, j5⟩ := J
    exact step g' i ys vs' ns' n' ss v I oI C oC D m₂ h tk E' hi' j1 j2 j3 j4 j5 hP hC hx F N off off.1.1 off.1.2.1 off.1.2.2 off.2.1.1 off.2.1.2.1 off.2.1.2.2 ne) (fun g' ys news J => by
    obtain ⟨vs', ns', n', ss, rfl, j1, j2, j3, j4, j5⟩ := J
    exact fin g' ys vs' ns' n' ss j1 j2 j3 j4 j5)
theorem prt_src {elt : PySem.Expr} {x : Str} {scope : Scope} {cl : List (Str × Addr)} {Fin : Shared → List Value → Led → Prop} {s₁ : Shared} {r aS ac : Addr} {oc : Obj} {b : Int} {t u v : Tok} {vs0 : List Value} {ns0 : List Int} {n0 : Nat}
    (hh : A.handled = none) (F : Fr h₀ L s₁.heap m) (N : News h₀ L s₁.heap [(aS, listOf vs0.toArray n0), (ac, oc)]) (hr : IsRange s₁.heap r 0 b 1 t u v) (h0 : -1 ≤ b) (h1 : b ≤ 1000) (hi : IntsAre vs0 ns0) (hl : vs0.length ≤ 200) (hc : @Ne Nat ac aS)
    (step : ∀ g' i ys vs' ns' n' bs tl v I oI C oC D m₂ h tk (E' : Value → Shared → Prop), i < b.toNat → IntsAre vs' ns' → vs'.length ≤ 200 → PartsAt tl ys bs → ys.length = i → (∀ p ∈ tl, p.1 ≠ aS ∧ p.1 ≠ ac) → (∀ p ∈ tl ++ [(ac, oc)], p.1 ≠ aS) → (∀ p ∈ tl, p.1 ≠ ac) → (∃ t, v = .int (0 + (i : Int)) t) → LCg.NsObj oC m₂ → m₂ x = some v → Fr h₀ L h m →
      News h₀ L h ((I, oI) :: (C, oC) :: (D, LCg.lst ys) :: (aS, listOf vs'.toArray n') :: (tl ++ [(ac, oc)])) → LCg.Off3 I C D ((aS, listOf vs'.toArray n') :: (tl ++ [(ac, oc)])) → (@Ne Nat aS I) → (@Ne Nat aS C) → (@Ne Nat aS D) → ((@Ne Nat I C) ∧ (@Ne Nat I D) ∧ (@Ne Nat C D)) →
      wpAny (model prog w) A (eval elt (compEnvC scope cl C env)) (LCg.CompEnd h₀ L m { ({ s₁ with heap := g' } : Shared) with heap := h, toks := tk } I oI C oC D (LCg.lst ys) (fun _ => True) (fun y news' => PrtJ aS (ac, oc) (i + 1) (ys ++ [y]) news')) E' { ({ s₁ with heap := g' } : Shared) with heap := h, toks := tk })
    (fin : ∀ g' ys vs' ns' n' bs tl, IntsAre vs' ns' → vs'.length ≤ 200 → PartsAt tl ys bs → ys.length = b.toNat → (∀ p ∈ tl, p.1 ≠ aS ∧ p.1 ≠ ac) → Fin { s₁ with heap := g' } ys ((aS, listOf vs'.toArray n') :: (tl ++ [(ac, oc)]))) :
    LCg.CompSrc prog w A h₀ L m env elt x scope cl Fin (.ref r) s₁ :=
  range_src (PrtJ aS (ac, oc)) hh F N hr h0 h1 ⟨_, _, _, [], [], rfl, hi, hl, .nil, rfl, fun _ h => nomatch h⟩ (fun g' i ys news v I oI C oC D m₂ h tk E' hi' J hP hC hx F N off ne => by
    obtain ⟨vs', ns', n', bs, tl, rfl, j1, j2, j3, j4, j5⟩ := J
    exact step g' i ys vs' ns' n' bs tl v I oI C oC D m₂ h tk E' hi' j1 j2 j3 j4 j5 (prt_off j5 hc).1 (prt_off j5 hc).2 hP hC hx F N off off.1.1 off.1.2.1 off.1.2.2 ne) (fun g' ys news J => by
    obtain ⟨vs', ns', n', bs, tl, rfl, j1, j2, j3, j4, j5⟩ := J
    exact fin g' ys vs' ns' n' bs tl j1 j2 j3 j4 j5)
theorem SptJ.elim {aP aS ac : Addr} {oc : Obj} {len : Nat} {m₀ : Str → Option Value} {i : Nat} {m' : Str → Option Value} {nx : Led} {P : (Str → Option Value) → Led → Prop} (z : SptJ aP aS (ac, oc) len m₀ i m' nx)
    (k : ∀ vsP nP vs2 ns2 n2 ss2 (u : Str → Option Value), StrsAre vsP ss2 → okI i ss2 → vsP.length = len → IntsAre vs2 ns2 → vs2.length ≤ 200 →
      P (fun z => if [Str.ofString "spot"].contains z then u z else m₀ z) [(aP, listOf vsP.toArray nP), (aS, listOf vs2.toArray n2), (ac, oc)]) : P m' nx := by
  obtain ⟨vsP, nP, vs2, ns2, n2, ss2, rfl, q1, q2, q3, q4, q5, u, rfl⟩ := z
  exact k vsP nP vs2 ns2 n2 ss2 u q1 q2 q3 q4 q5
theorem spt_all {body : List Stmt} {Q : Flow → Shared → Prop} {r aP aS ac : Addr} {oc : Obj} {b₀ : Int} {t₀ u₀ v₀ : Tok} {m₀ : Str → Option Value} {vsP vs : List Value} {ss : List Str} {ns : List Int} {nP n len : Nat}
    (F : Fr h₀ L s.heap m₀) (hL : env.locals = L) (hh : A.handled = none) (hr : IsRange s.heap r 0 b₀ 1 t₀ u₀ v₀) (h0 : -1 ≤ b₀) (h1 : b₀ ≤ 1000) (N : News h₀ L s.heap [(aP, listOf vsP.toArray nP), (aS, listOf vs.toArray n), (ac, oc)])
    (q1 : StrsAre vsP ss) (q2 : ∀ x ∈ ss, x ∈ wrds) (q3 : vsP.length = len) (q4 : IntsAre vs ns) (q5 : vs.length ≤ 200)
    (turn : ∀ i t h tk own vsP nP vs2 ns2 n2 ss2 (u : Str → Option Value), i < b₀.toNat → OwnOff own [aP, aS, ac] → (∀ p ∈ own, p.1 ≠ aP) → (∀ p ∈ own, p.1 ≠ aS) → (∀ p ∈ own, p.1 ≠ ac) → StrsAre vsP ss2 → okI i ss2 → vsP.length = len → IntsAre vs2 ns2 → vs2.length ≤ 200 →
      Fr h₀ L h (fun y => if y = Str.ofString "spot" then some (.int (i : Nat) t) else if [Str.ofString "spot"].contains y then u y else m₀ y) → News h₀ L h ((aP, listOf vsP.toArray nP) :: (aS, listOf vs2.toArray n2) :: (ac, oc) :: own) →
      wpAny (model prog w) A (execs body env) (InvPostG h₀ env.locals (SptJ aP aS (ac, oc) len m₀ (i + 1)) own { s with heap := h, toks := tk } Q) E { s with heap := h, toks := tk })
    (done : ∀ h tk vsP nP vs2 ns2 n2 ss2 (u : Str → Option Value), StrsAre vsP ss2 → okI b₀.toNat ss2 → vsP.length = len → IntsAre vs2 ns2 → vs2.length ≤ 200 →
      Fr h₀ L h (fun z => if [Str.ofString "spot"].contains z then u z else m₀ z) → News h₀ L h [(aP, listOf vsP.toArray nP), (aS, listOf vs2.toArray n2), (ac, oc)] → Q .next { s with heap := h, toks := tk }) :
    wpAny (model prog w) A (pyIter (.ref r)) (fun it s₂ => LoopAtV prog w A h₀ env (Str.ofString "spot") body Q E it s₂) E s := by
  subst hL
  refine rng_all (SptJ aP aS (ac, oc) len m₀) hh hr h0 h1 F N ⟨vsP, _, _, _, _, ss, rfl, q1, okI_zero q2, q3, q4, q5, st_end fun _ _ => rfl⟩ ?_ ?_
  · intro i t m₁ nx h tk own hi hoff z
    exact z.elim (P := fun m₁ nx => OwnOff own (nx.map (·.1)) → Fr h₀ env.locals h (fun y => if y = Str.ofString "spot" then some (.int (i : Nat) t) else m₁ y) → News h₀ env.locals h (nx ++ own) →
      wpAny (model prog w) A (execs body env) (InvPostG h₀ env.locals (SptJ aP aS (ac, oc) len m₀ (i + 1)) own { s with heap := h, toks := tk } Q) E { s with heap := h, toks := tk })
      (fun vsP nP vs2 ns2 n2 ss2 u q1 q2 q3 q4 q5 ho => turn i t h tk own vsP nP vs2 ns2 n2 ss2 u hi ho (own_ne ho).1 (own_ne ho).2.1 (own_ne ho).2.2 q1 q2 q3 q4 q5) hoff
  · intro m₁ nx h tk z
    exact z.elim (P := fun m₁ nx => Fr h₀ env.locals h m₁ → News h₀ env.locals h nx → Q .next { s with heap := h, toks := tk }) fun vsP nP vs2 ns2 n2 ss2 u => done h tk vsP nP vs2 ns2 n2 ss2 u
end
theorem top2 {d : DefRec} {kwd : List (Str × PySem.Expr)} (h : defOf hd.view_1_40 (Str.ofString "law") = some (d, kwd))
    (walk : ∀ (as : List Addr) (e : ∀ P, as = (hd.heap_1_39 P).map (·.1)), WalkO hd.view_1_40 [Str.ofString "GateloomError"] (XL hd.view_1_40 []) (Hook.says (kHook hd.heap_1_39 as e)) PySem.Challenge.rw_pq0445_01.row.toRowW d kwd (fun f vs => PySem.call f vs)) : PySem.Challenge.rw_pq0445_01.Holds :=
  Mine.top fun as e d' kwd' h' => by
    cases h.symm.trans h'
    exact walk as e
end Mine
end

section
open PySem PySem.W PyProof.Rows PySem.Calls PySem.Spec
set_option maxRecDepth 100000
namespace Mine
theorem tree_all (prog : Program) (w : World) (mean : ExcName → Option Value) (mg mb : Str → Option Value) : ∀ d, TreeGives prog w mean mg mb d
  | 0 => tree0 prog w mean mg mb
  | d + 1 => tree1 prog w mean mg mb d (tree_all prog w mean mg mb d)
/-- the use of _law_tree at the law -/
theorem tree_top {prog : Program} {w : World} {mean : ExcName → Option Value} {mg mb : Str → Option Value} {aS aM aI : Addr} {vs : List Value} {ns : List Int} {n n2 n3 : Nat} {rest : Led} {tk : Tok}
    {dp u : Nat} {gd : Option (List Code)} {cn : Str} {cs : Scope} {a : Addr} {ccd : Value} {cl : List (Str × Addr)} {outer : List Env} {A₀ : Around} {base h₀ : Heap} {L : Addr} {m : Str → Option Value} {s : Shared} {Q E : Value → Shared → Prop}
    (B : Below A₀ base outer h₀) (F : Fr h₀ L s.heap m) (X : (hd.heap_1_39 w.params).In h₀) (N : News h₀ L s.heap ((aI, listOf #[] n3) :: (aM, listOf #[] n2) :: (aS, listOf vs.toArray n) :: rest)) (T : Top hd.view_1_40 (looseW hd.view_1_40 [Str.ofString "GateloomError"]) mean mg mb h₀) (hk : cs.kind = .function)
    (hi : IntsAre vs ns) (h1 : ∀ p ∈ rest, p.1 ≠ aS) (h2 : ∀ p ∈ rest, p.1 ≠ aM) (h3 : ∀ p ∈ rest, p.1 ≠ aI) (hSM : @Ne Nat aS aM) (hSI : @Ne Nat aS aI) (hMI : @Ne Nat aM aI) (hl : vs.length ≤ 200) (hd : dp + 70 < recursionLimit) (hu : u + 900 < cLine)
    (ret : ∀ vs' ns' n' mn n2' inn n3' t tl r h' tk', IntsAre vs' ns' → vs'.length ≤ 200 → Tr.In tl t r → t.ok 0 mn.length → Made tl mn t.post → Inside tl inn → mn.length ≤ 121 → inn.length ≤ 121 → Abv (aS :: aM :: aI :: rest.map (·.1)) tl → Fr h₀ L h' m →
      News h₀ L h' ((aS, listOf vs'.toArray n') :: (aM, listOf mn.toArray n2') :: (aI, listOf inn.toArray n3') :: (tl ++ rest)) → Q r { s with heap := h', toks := tk' }) :
    wpAny (model prog w) (ktrTop dp u gd cn cs L a ccd cl outer) (call (.ref 113) [.ref aS, .ref aM, .ref aI, .int 0 tk]) Q E s := by
  refine tree_all prog w mean mg mb 4 aS aM aI vs ns n [] n2 [] n3 rest 0 tk hi h1 h2 h3 hSM hSI hMI hl (by decide) (by decide) (by decide) (by decide) dp u gd cn cs a ccd cl outer A₀ base h₀ L m s Q E B F X (newsSub N fun p hp => by simp only [List.mem_cons] at hp ⊢; rcases hp with h | h | h | h <;> simp [h]) T hk (by omega) (by omega) ?_
  rintro r news' h' tk' F' N' ⟨vs', ns', n', mn, n2', inn, n3', t, tl, e1, e2, rfl, e3, e4, e5, e6, e7, e8, e9⟩
  exact ret vs' ns' n' mn n2' inn n3' t tl r h' tk' e1 (by omega) e3 (by simpa using e4) e5 e6 e7 e8 e9 F' (by simpa using N')
end Mine
namespace Mine
theorem filter_len3 {us : List Value} (h : us.length ≤ 3) : (us.filter isSome).length ≤ 3 := Nat.le_trans (List.length_filter_le _ _) h
theorem inner_use {prog : Program} {w : World} {mean : ExcName → Option Value} {mg mb : Str → Option Value} {e : Addr} {k i : Nat} {us : List Value} {news : Led}
    {dp u : Nat} {gd : Option (List Code)} {cn : Str} {cs : Scope} {a : Addr} {ccd : Value} {cl : List (Str × Addr)} {outer : List Env} {A₀ : Around} {base h₀ : Heap} {L : Addr} {m : Str → Option Value} {s : Shared} {Q E : Value → Shared → Prop}
    (B : Below A₀ base outer h₀) (F : Fr h₀ L s.heap m) (X : (hd.heap_1_39 w.params).In h₀) (N : News h₀ L s.heap news) (T : Top hd.view_1_40 (looseW hd.view_1_40 [Str.ofString "GateloomError"]) mean mg mb h₀) (hk : cs.kind = .function)
    (hN : NodeAt news e k i us) (hd : dp + 5 < recursionLimit) (hu : u + 200 < cLine)
    (ret : ∀ D h' tk', (∀ p ∈ news, p.1 ≠ D) → Fr h₀ L h' m → News h₀ L h' ((D, LCg.lst (us.filter isSome)) :: news) → Q (.ref D) { s with heap := h', toks := tk' }) :
    wpAny (model prog w) (ktrTop dp u gd cn cs L a ccd cl outer) (call (.ref 80) [.ref e]) Q E s :=
  inner prog w mean mg mb hN dp u gd cn cs a ccd cl outer A₀ base h₀ L m s Q E B F X N T hk hd hu fun r news' h' tk' F' N' ⟨D, e1, e2, e3⟩ => by
    subst e1 e3
    exact ret D h' tk' e2 F' N'
theorem NodeAt.up3 {news : Led} {x y z : Addr × Obj} {a : Addr} {k i : Nat} {us : List Value} (h : NodeAt news a k i us) : NodeAt (x :: y :: z :: news) a k i us := h.mono fun p hp => .tail _ (.tail _ (.tail _ hp))
theorem node_up1 {h₀ h : Heap} {L : Addr} {news : Led} {x : Addr × Obj} {e : Addr} {k i : Nat} {us : List Value} (H : NodeAt news e k i us) (_N : News h₀ L h (x :: news)) : NodeAt (x :: news) e k i us := H.mono fun p hp => .tail _ hp
theorem mem_up1 {h₀ h : Heap} {L : Addr} {news : Led} {x p : Addr × Obj} (H : p ∈ news) (_N : News h₀ L h (x :: news)) : p ∈ x :: news := .tail _ H
theorem sweep8 {g h : Heap} {L : Addr} {a1 a2 a3 a4 a5 S M I c : Addr × Obj} {tl : Led} (N : News g L h (a1 :: a2 :: a3 :: a4 :: a5 :: S :: M :: I :: (tl ++ [c]))) : News g L h [S, c] := newsSub N fun p hp => by
  simp only [List.mem_cons, List.mem_append, List.not_mem_nil, or_false] at hp ⊢
  rcases hp with h | h <;> simp [h]
set_option maxHeartbeats 8000000 in
theorem law_walk : PySem.Challenge.rw_pq0445_01.Holds := top2 rfl (by
  k_with_none
  (k_with "@units_room" => (have hcL' := cLine_is; simp only [units_in1, units_deeper, Around.mark_units]; dsimp only [ktrTop]; omega))
  (k_with "@k_all" => assumption)
  (k_with "@k_ne" => (refine neN ?_; (try dsimp only); first | with_reducible assumption | (refine Ne.symm ?_; with_reducible assumption) | k_extra "nepick"))
  (k_with "@k_all" => first | exact List.forall_mem_nil _ | (refine' List.forall_mem_cons.mpr ⟨?aZq, ?bZq⟩; (case aZq => k_ne); (case bZq => k_all)))
  (k_with "@k_mem" => (refine List.mem_cons_of_mem _ ?_; k_mem))
  (k_with "PairAtL" => (refine Blk.mk ?_))
  (k_with "eval IfExp" => (refine Blk.mk ?_))
  (k_with "CompSrc" => (refine Blk.mk ?_))
  (k_with "CompSrcT" => (refine Blk.mk ?_))
  (k_with "exec While" => (refine Blk.mk ?_))
  (k_with "call builtin:sorted" => (refine Blk.mk ?_))
  (k_with "compareOp NotEq ref ref" => ((with_reducible rename sortedS _ = true => hq9); refine Blk.mk ?_))
  (k_with "pyIter ref" => (refine Blk.mk ?_))
  (k_with "CompEnd" => (refine Blk.mk ?_))
  (k_with "call ref" => (k_here; (with_reducible show wpAny _ _ (call (Value.ref 127) _) _ _ _); (refine Blk.mk ?_)))
  (k_with "call ref" => (k_here; (with_reducible show wpAny _ _ (call (Value.ref 87) _) _ _ _); (refine Blk.mk ?_)))
  (k_with "call ref" => (k_here; (with_reducible show wpAny _ _ (call (Value.ref 94) _) _ _ _); k_dflt (refine' open_use ?BZq ?FZq ?XZq ?NZq ?TZq ?hkZq ?hlZq ?hiZq ?hnZq ?hdZq ?huZq ?_); (case BZq => k_asm); (case FZq => k_asm); (case XZq => k_asm); (case NZq => k_asm); (case TZq => k_asm); (case hkZq => rfl); (case hlZq => assumption); (case hiZq => assumption); (case hnZq => omega); (case hdZq => ktr_room); (case huZq => ktr_units); intro _ _ _ _ _ _ _ _ l1pZq _ _; (try k_lt l1pZq); (try dsimp only)))
  (k_with "call ref" => (k_here; (with_reducible show wpAny _ _ (call (Value.ref 113) _) _ _ _); k_dflt (refine' tree_top ?BZq ?FZq ?XZq ?NZq ?TZq ?hkZq ?hiZq ?h1Zq ?h2Zq ?h3Zq ?h4Zq ?h5Zq ?h6Zq ?hlZq ?hdZq ?huZq ?_); (case BZq => k_asm); (case FZq => k_asm); (case XZq => k_asm); (case NZq => k_asm); (case TZq => k_asm); (case hkZq => rfl); (case hiZq => assumption); (case h1Zq => k_all); (case h2Zq => k_all); (case h3Zq => k_all); (case h4Zq => k_ne); (case h5Zq => k_ne); (case h6Zq => k_ne); (case hlZq => omega); (case hdZq => ktr_room); (case huZq => ktr_units); intro _ _ _ _ _ _ _ _ _ _ _ _ _ _ _ _ _ _ _ _ _ _ _; (try dsimp only)))
  (k_with "exec For Tuple Name cons nil" => (k_here; k_dflt (refine' For_pairsL ?FZq ?hhZq ?aZq ?bZq ?cZq ?_; (case FZq => k_asm); (case hhZq => rfl); (case aZq => rfl); (case bZq => rfl); (case cZq => rfl))))
  (k_with "call ref" => (k_here; (with_reducible show wpAny _ _ (call (Value.ref 80) _) _ _ _); k_dflt (refine' inner_use ?BZq ?FZq ?XZq ?NZq ?TZq ?hkZq ?hNZq ?hdZq ?huZq ?_); (case BZq => k_asm); (case FZq => k_asm); (case XZq => k_asm); (case NZq => k_asm); (case TZq => k_asm); (case hkZq => rfl); (case hNZq => k_dflt (first | (with_reducible assumption) | exact NodeAt.up3 (by with_reducible assumption))); (case hdZq => ktr_room); (case huZq => ktr_units); intro _ _ _ _ _ _; (try dsimp only)))
  (k_with "compareOp NotEq ref ref" => (k_here; k_dflt (refine' my_neSame ?NZq ?aZq ?bZq ?rZq ?uZq ?_); (case NZq => k_asm); (case rZq => k_dflt assumption); (case aZq => k_dflt (exact List.Mem.head _)); (case bZq => k_dflt (exact List.Mem.tail _ (by assumption))); (case uZq => ktr_units)))
  (k_with "call builtin:sorted" => (k_here; (with_reducible show wpAny _ _ (call (Value.builtin _) [Value.ref _]) _ _ _); k_dflt (refine' my_sortedL ?FZq ?NZq ?hmZq ?hIZq ?hbZq ?hrZq ?htZq ?hsZq ?_; (case FZq => k_asm); (case NZq => k_asm); (case hmZq => k_mem); (case hIZq => with_reducible assumption); (case hbZq => omega); (case hrZq => with_reducible first | exact metl_runs _ | exact asc_runs _); (case htZq => first | (with_reducible exact asc_perm _) | exact List.Perm.refl _); (case hsZq => exact asc_sorted _)); intro _ _ _ _ _ _ _ _; (try dsimp only)))
  (k_with "compareOp NotEq ref ref" => (k_here; k_dflt (refine' my_neInts ?NZq ?aZq ?bZq ?hiZq ?hjZq ?uZq ?_); (case NZq => k_asm); (case aZq => k_mem); (case bZq => k_mem); (case hiZq => with_reducible assumption); (case hjZq => with_reducible assumption); (case uZq => ktr_units)))
  (k_with "call builtin:len" => (k_here; (with_reducible show wpAny _ _ (call (Value.builtin _) [Value.ref _]) _ _ _); k_dflt (first | (refine' my_lenSet ?NZq ?hiZq ?hndZq ?hbZq ?hoZq ?_; (case NZq => k_asm); (case hoZq => with_reducible assumption); (case hiZq => with_reducible assumption); (case hndZq => exact metl_nodup _); (case hbZq => omega)) | (refine' my_lenB (by k_asm) (by k_mem) ?hzZq ?_; (case hzZq => omega)))); (try dsimp only))
  (k_with "call type:set" => (k_here; (with_reducible show wpAny _ _ (call (Value.type "set") [Value.ref _]) _ _ _); k_dflt (refine' my_setI ?hhZq ?FZq ?NZq ?hlZq ?hiZq ?hbZq ?_; (case hhZq => rfl); (case FZq => k_asm); (case NZq => k_asm); (case hlZq => k_mem); (case hiZq => with_reducible assumption); (case hbZq => omega)); intro _ _ _ _ _ _ _ _; (try dsimp only)))
  (k_with "compareOp NotEq ref ref" => (k_here; k_dflt (refine' my_neNil ?NZq ?aZq ?bZq ?uZq ?_); (case NZq => k_asm); (case aZq => k_dflt (exact List.Mem.tail _ (List.Mem.head _))); (case bZq => k_dflt (exact List.Mem.head _)); (case uZq => ktr_units)))
  (k_with "compareOp NotEq ref ref" => (k_here; k_dflt (refine' my_neSnoc ?NZq ?aZq ?bZq ?uZq ?_); (case NZq => k_asm); (case aZq => k_dflt (exact List.Mem.tail _ (List.Mem.head _))); (case bZq => k_dflt (exact List.Mem.head _)); (case uZq => ktr_units)))
  (k_with "call builtin:list.pop" => (k_here; (with_reducible show wpAny _ _ (call (Value.builtin _) [Value.ref _]) _ _ _); k_dflt (refine' my_pop ?FZq ?NZq ?UZq ?zZq ?_; (case FZq => k_asm); (case NZq => k_asm); (case UZq => k_updF); (case zZq => omega)); intro _ _ _; (try dsimp only)))
  (k_with "subscriptTail" => (k_here; (with_reducible show wpAny _ _ (subscriptTail _ _ (Value.ref _) (Value.int _ _)) _ _ _); k_dflt (refine' my_tup (by k_asm) (by k_mem) (by decide) (by decide) ?hxZq ?_; (case hxZq => first | assumption | exact rfl)); (try dsimp only)))
  (k_with "inplaceOp Add ref ref" => (k_here; k_dflt (refine' iadd_met ?FZq ?NZq ?hDZq ?hxZq ?hyZq ?hWZq ?zZq ?_; (case FZq => k_asm); (case NZq => k_asm); (case hDZq => assumption); (case hxZq => k_ne); (case hyZq => k_ne); (case hWZq => assumption); (case zZq => first | omega | (have := filter_len3 (by assumption); omega))); intro _ _ _ _; (try dsimp only)))
  (k_with "call ref" => (k_here; (with_reducible show wpAny _ _ (call (Value.ref 101) _) _ _ _); k_dflt (refine' pull_use ?BZq ?FZq ?XZq ?NZq ?TZq ?hkZq ?UZq ?hiZq ?haZq ?hbZq ?hlZq ?hdZq ?huZq ?_); (case BZq => k_asm); (case FZq => k_asm); (case XZq => k_asm); (case NZq => k_asm); (case TZq => k_asm); (case hkZq => rfl); (case UZq => k_updF); (case hiZq => assumption); (case haZq => decide); (case hbZq => decide); (case hlZq => omega); (case hdZq => ktr_room); (case huZq => ktr_units); intro _ _ _ _ _ _ _ _ _ _ _ _ _; (try dsimp only); (try k_sweep)))
  (k_with "call ref" => (k_here; (with_reducible show wpAny _ _ (call (Value.ref 87) _) _ _ _); k_dflt (refine' called_use ?BZq ?FZq ?XZq ?NZq ?TZq ?hkZq ?htZq ?hszZq ?hdZq ?huZq ?_); (case BZq => k_asm); (case FZq => k_asm); (case XZq => k_asm); (case NZq => k_asm); (case TZq => k_asm); (case hkZq => rfl); (case htZq => with_reducible assumption); (case hszZq => omega); (case hdZq => ktr_room); (case huZq => ktr_units); intro _ _ _ _ _ _ _ _ _ _ _ _; (try dsimp only)))
  (k_with "call type:set" => (k_here; (with_reducible show wpAny _ _ (call (Value.type "set") [Value.ref _]) _ _ _); k_dflt (refine' my_setS ?hhZq ?FZq ?NZq ?hlZq ?hiZq ?hbZq ?_; (case hhZq => rfl); (case FZq => k_asm); (case NZq => k_asm); (case hlZq => k_mem); (case hiZq => with_reducible assumption); (case hbZq => omega)); intro _ _ _ _ _ _ _ _ _ _ _ _ _ _ _ _; (try dsimp only)))
  (k_with "subscriptTail" => (k_here; (with_reducible show wpAny _ _ (subscriptTail _ _ (Value.ref _) (Value.int _ _)) _ _ _); k_dflt (refine' my_word ?NZq ?mZq ?aZq ?bZq ?_; (case NZq => k_asm); (case mZq => exact List.Mem.head _); (case aZq => omega); (case bZq => omega)); intro _ _ _; (try dsimp only)))
  (k_with "subscriptTail" => (k_here; (with_reducible show wpAny _ _ (subscriptTail _ _ (Value.ref _) (Value.int _ _)) _ _ _); k_dflt (refine' my_next ?NZq ?mZq ?aZq ?bZq ?_; (case NZq => k_asm); (case mZq => exact List.Mem.head _); (case aZq => omega); (case bZq => omega)); intro _ _ _; (try dsimp only)))
  (k_with "exec For" => (k_here; (rename Fr _ _ _ _ => lFpZq); (with_unfolding_all refine' For_invVF lFpZq ?k1Zq ?k2Zq ?_; (case k1Zq => exact rfl); (case k2Zq => exact rfl); k_whole)))
  (k_with "call builtin:len" => (k_here; (with_reducible show wpAny _ _ (call (Value.builtin _) [Value.ref _]) _ _ _); k_dflt (refine' my_lenB (by k_asm) (by k_mem) ?hzZq ?_; (case hzZq => omega)); (try dsimp only)))
  (k_with "subscriptTail Name Name ref int" => (k_here; (with_reducible show wpAny _ _ (subscriptTail _ _ (Value.ref _) (Value.int _ _)) _ _ _); k_dflt (refine' my_item ?NZq ?mZq ?aZq ?bZq ?hxZq ?_; (case NZq => k_asm); (case mZq => k_dflt k_mem); (case hxZq => k_dflt assumption); (case aZq => omega); (case bZq => omega)); (try dsimp only)))
  (k_with "setItem ref int" => (k_here; k_dflt (refine' my_setIt ?FZq ?NZq ?UZq ?aZq ?bZq ?cZq ?_; (case FZq => k_asm); (case NZq => k_asm); (case UZq => k_updF); (case aZq => omega); (case bZq => omega); (case cZq => omega)); intro _ _ _; (try dsimp only)))
  (k_with "call ref" => (k_here; (with_reducible show wpAny _ _ (call (Value.ref 68) _) _ _ _); k_dflt (refine' np_eq ?BZq ?FZq ?XZq ?NZq ?TZq ?hkZq ?hbZq ?hdZq ?huZq ?_); (case BZq => k_asm); (case FZq => k_asm); (case XZq => k_asm); (case NZq => k_asm); (case TZq => k_asm); (case hkZq => rfl); (case hbZq => first | (with_reducible assumption) | exact ⟨rfl, by decide +kernel, by decide +kernel⟩); (case hdZq => ktr_room); (case huZq => ktr_units); intro _ _ _ _; (try dsimp only)))
  (k_with "call ref" => (k_here; (with_reducible show wpAny _ _ (call (Value.ref 120) _) _ _ _); k_dflt (refine' marked_use ?BZq ?FZq ?XZq ?NZq ?TZq ?hkZq ?hlZq ?hsZq ?hdZq ?huZq ?_); (case BZq => k_asm); (case FZq => k_asm); (case XZq => k_asm); (case NZq => k_asm); (case TZq => k_asm); (case hkZq => rfl); (case hlZq => k_dflt k_mem); (case hsZq => k_dflt assumption); (case hdZq => ktr_room); (case huZq => ktr_units); intro _ _ _ _; (try dsimp only)))
  (k_with "call builtin:str.join" => (k_here; k_dflt (refine' join_ok ?NZq ?hmZq ?hiZq ?hoZq ?hlZq ?_; (case NZq => k_asm); (case hmZq => k_mem); (case hiZq => with_reducible assumption); (case hoZq => with_reducible assumption); (case hlZq => omega)); intro _ _ _ _; (try dsimp only)))
  (k_with "subscriptTail" => (k_here; (with_reducible show wpAny _ _ (subscriptTail _ _ (Value.ref _) (Value.int (Int.fdiv _ _) _)) _ _ _); k_dflt (refine' my_sig ?NZq ?mZq ?aZq ?bZq ?_; (case NZq => k_asm); (case mZq => exact List.Mem.head _); (case aZq => omega); (case bZq => omega)); intro _ _; (try dsimp only)))
  (k_with "call type:tuple" => (k_here; (with_reducible show wpAny _ _ (call (Value.type _) [Value.ref _]) _ _ _); k_dflt (refine' kde_tupleOf ?k1Zq ?k2Zq ?k3Zq ?k4Zq ?k5Zq ?_; (case k1Zq => k_asm); (case k2Zq => k_asm); (case k3Zq => exact my_isList (by k_asm) (by k_mem)); (case k4Zq => (rw [List.size_toArray]; omega)); (case k5Zq => exact List.toList_toArray); k_whole); intro _ _ _ _ l1Zq; (try k_lt l1Zq)))
  (k_with "compareOp In str ref" => (k_here; (with_reducible show wpAny _ _ (compareOp _ (Value.str (Str.ofString "local") _) _) _ _ _); k_dflt (refine' in_parts ?NZq ?mZq ?hZq ?_; (case NZq => k_asm); (case mZq => k_dflt k_mem); (case hZq => k_dflt assumption)); (try dsimp only)))
  intro as e
  k_go0
  generalize hG9 : GoodW _ _ _ _ _ = G9
  k_steps
  rename Tr.In _ _ _ => hT3
  rename Tr.ok _ _ _ => hT4
  rename Made _ _ _ => hT5
  rename Inside _ _ => hT6
  rename Abv _ _ => hT9
  rename Fr _ _ _ _ => F5
  rename News _ _ _ _ => N5
  refine Blk.out ?_
  refine pair_in hT6 F5 rfl N5 (.tail _ (.tail _ (.head _))) (fun p hp => .tail _ (.tail _ (.tail _ (List.mem_append.mpr (.inl hp))))) ?st ?dn
  case st =>
    intro p a l k i n us I oI u h tk e3 e4 e8 hI hu F N
    have e6 := node_up1 e3 N
    have e7 := mem_up1 e4 N
    clear e3 e4
    k_steps
    rename Fr _ _ _ _ => F9
    rename News _ _ _ _ => N9
    refine ⟨_, _, _, rfl, F9, newsSub N9 fun p hp => .tail _ hp, fun z h1 h2 => ?_⟩
    rw [if_neg h2, if_neg h1]
    exact hu z h1 h2
  case dn =>
    intro h tk u' F N
    k_steps
    rename Fr _ _ _ _ => F6
    rename News _ _ _ _ => N6
    rename _ ∧ _ ∧ _ ∧ AllLt _ _ => lM
    have hM2 := off_head N6 lM
    refine Blk.out ?_
    refine ite_tree hT3 F6 N6 ?i1 ?i2 ?i3
    case i1 =>
      rintro e rfl
      refine IfExp_ ?_
      k_steps
      rename Fr _ _ _ _ => F7
      rename News _ _ _ _ => N7
      exact ⟨_, _, _, rfl, rfl, tb_ltOf (by assumption), F7, N7⟩
    case i2 =>
      rintro a rfl
      refine IfExp_ ?_
      k_steps
      rename Fr _ _ _ _ => F7
      rename News _ _ _ _ => N7
      exact ⟨_, _, _, rfl, rfl, tb_ltOf (by assumption), F7, N7⟩
    case i3 =>
      intro aW h tk hlW F N
      have hW2 := (off_sub hlW).1
      have hW1 := (off_sub hlW).2
      dsimp only at hW1
      k_steps
      rename Fr _ _ _ _ => F7
      rename News _ _ _ _ => N7
      refine Blk.out ?_
      refine While_met [Str.ofString "node"] F7 N7 (hT3.mono fun p hp => .tail _ (.tail _ (.tail _ (List.mem_append.mpr (.inl hp))))) hT4 ?w1 ?w2
      case w1 =>
        intro ms k1 k2 u h tk hms F N
        have hml := hms.length
        rw [metl_len] at hml
        k_steps
        refine Blk.out ?_
        rename Fr _ _ _ _ => F8
        rename News _ _ _ _ => N8
        refine LCg.CompSrc.ledger (its := List.toArray _) rfl F8 N8 (by k_mem) ?sz fun g => ?_
        case sz => rw [List.size_toArray, sizeLine_eq]; omega
        refine compRest_fix (fun i ys => IntsAre ys (asc i)) ?cs ?cf .nil
        case cs =>
          intro i ys v I oI C oC D m₂ h tk E' hi hy hp hC hx F N off ne
          refine made_c1 hT5 hT4 hp hx (fun p hp => in_app hp hM2) ?_
          clear hx hp
          intro a xs t1 hx hxm hx1
          k_steps
          refine Blk.out ?_
          exact LCg.CompEnd.intro F N _ (fun _ h => h) off (.inr ⟨_, by k_mem, rfl, _, rfl⟩) ⟨by rw [asc_snoc]; exact hy.append (.cons _ _ .nil), rfl⟩
        case cf =>
          intro ys hy
          have hyl := hy.length
          rw [asc_len, List.size_toArray] at hyl
          unfold LCg.FinE
          intro D0 h0 tk0 F0 N0 o0
          have hD0 := off1_mem o0
          clear o0
          dsimp only
          rw [List.size_toArray] at hy
          k_steps
          focus (subst hG9; k_steps; done)
          refine Blk.out ?_
          rename Tr => t9
          rename Fr _ _ _ _ => F8
          rename News _ _ _ (_ :: _ :: _ :: _ :: _ :: _ :: _ :: _ :: _ :: _ :: (_ ++ _)) => N8
          refine LCt.CompSrcT.ledger (its := List.toArray _) rfl F8 (newsSub N8 fun p hp => (.tail _ (.tail _ (.tail _ (.tail _ (.tail _ (.tail _ (.tail _ hp)))))))) (.tail _ (.head _)) ?sz fun g => ?_
          case sz => rw [List.size_toArray, sizeLine_eq]; omega
          clear N8
          refine compRestT_fix (fun i ys => StrsAre ys (evs (t9.post.take i))) ?cs ?cf .nil
          case cs =>
            intro i ys v I oI C oC D m₂ h tk E' hi hy hp hC hx F N off ne
            refine made_c2 hT5 hT4 hp hx (fun p hp => in_app hp hM2) ?_
            clear hx hp
            intro a k xs t0 t1 hx hk hpi hxm hx0 hx1
            k_steps
            · rename Fr _ _ _ _ => F9
              rename News _ _ _ _ => N9
              rename List.any _ _ = true => ha
              refine Blk.out ?_
              exact LCg.CompEnd.intro F9 (newsSub N9 fun p hp => .tail _ hp) _ (fun _ h => h) off (.inr ⟨_, .tail _ (.head _), rfl, _, rfl⟩) ⟨evs_yes hy hpi hk ha, rfl⟩
            · rename Fr _ _ _ _ => F9
              rename News _ _ _ _ => N9
              rename List.any _ _ = false => ha
              refine Blk.out ?_
              exact LCg.CompEnd.intro F9 (newsSub N9 fun p hp => .tail _ hp) _ (fun _ h => h) off (.inr ⟨_, .tail _ (.head _), rfl, _, rfl⟩) ⟨evs_no hy hpi hk ha, rfl⟩
          case cf =>
            intro ys hy
            unfold LCg.FinA
            intro D0 h0 tk0 F0 N0 o0
            have hD0 := off1_mem o0
            clear o0
            dsimp only
            k_steps
            refine Blk.out ?_
            have hmt := made_take hT5
            rw [hmt] at hy
            have hyl' := hy.len_eq
            have hel := evs_le t9.post
            have hml := hT5.length
            rename News _ _ _ (_ :: _ :: _ :: _ :: (_ ++ _)) => N9
            refine tv_c hT3 N9 ?_
            intro tv htv hts htn
            k_steps
            refine Blk.out ?_
            rename Fr _ _ _ _ => F8
            rename News _ _ _ _ => N8
            rename List.Nodup _ => hn1
            rename StrsAre _ _ => hk1
            rename ∀ x, x ∈ _ ↔ x ∈ tv.names => hx1
            rw [htn] at hx1
            have hl1 := hk1.len_eq
            have hf1 := evs_few hn1 fun x hx => (hx1 x).mp hx
            refine my_sortedS F8 N8 (.head _) hk1 (by omega) fun D2 h2 vs2 ss2 e2 l2 F2 N2 hs2 hp2 hq2 => ?_
            clear N8 F8
            k_steps
            refine Blk.out ?_
            rename Fr _ _ _ _ => F8
            rename News _ _ _ _ => N8
            rename List.Nodup _ => hn2
            rename StrsAre (List.map _ _) _ => hk2
            rename ∀ x, x ∈ _ ↔ x ∈ evs _ => hx2
            rename byText _ = false → _ => hb2
            rename _ ∨ _ => ho2
            rename SetTable.fits _ _ = _ => hf2
            have hl2 := hk2.len_eq
            have hg2 := evs_few hn2 fun x hx => (hx2 x).mp hx
            rw [List.length_map, Array.length_toList] at hl2
            refine sorted_set rfl F8 N8 (.head _) hf2 hb2 ho2 (by omega) hk2 fun D3 h3 d3 tk3 vs3 ss3 e3 F3 N3 hs3 hp3 hq3 => ?_
            clear N8 F8
            have hsame := sorted_one hn1 hn2 (fun x => (hx1 x).trans (hx2 x).symm) hp2 hp3 hq2 hq3
            rw [← hsame] at hs3
            clear hsame
            k_steps
            refine Blk.out ?_
            refine my_neStrs N3 (.tail _ (.tail _ (.head _))) (.head _) hs2 hs3 (by ktr_units) ?_
            have N4 := sweep8 N3
            clear N3
            k_steps
            refine Blk.out ?_
            rename IsRange _ _ _ _ _ _ _ _ => hr1
            clear hT3 hT4 hT5 hT6 hT9 hmt hyl' hel hml htv hts htn
            rename Fr _ _ _ _ => F8
            rename News _ _ _ _ => N8
            refine pcs_src rfl F8 N8 hr1 (by omega) (by omega) (by assumption) (by omega) ?_ ?_
            · clear N8 F8 hr1
              intro g' i ys vs' ns' n' ss v I oI C oC D m₂ h tk E' hi j1 j2 j3 j4 j5 hP hC hx F N off _ _ _ _ _ _ ne
              k_steps
              rename Fr _ _ _ _ => F9
              rename News _ _ _ _ => N9
              rename _ ∈ wrds => hw9
              refine Blk.out ?_
              exact LCg.CompEnd.intro F9 N9 _ (fun p hp => .tail _ hp) off trivial ⟨_, _, _, ss ++ [_], rfl, by assumption, by omega, strs_snoc j3 _ _, fun x hx => (List.mem_append.mp hx).elim (j4 x) fun h => List.mem_singleton.mp h ▸ hw9, by simp [j5]⟩
            · clear N8 F8 hr1
              intro g' ys vs' ns' n' ss j1 j2 j3 j4 j5
              unfold LCg.FinA
              intro D0 h0 tk0 F0 N0 o0
              simp only [LCg.Off1] at o0
              repeat (have := o0.1; replace o0 := o0.2)
              dsimp only
              k_steps
              refine Blk.out ?_
              rename Fr _ _ _ _ => F8
              rename News _ _ _ _ => N8
              rename IsRange _ _ _ _ _ _ _ _ => hr1
              have hylen : ys.length ≤ 12 := by omega
              refine spt_all F8 rfl rfl hr1 (by omega) (by omega) N8 j3 j4 rfl j1 j2 ?_ ?_
              · clear N8 hr1 F8
                intro i t h tk own vsP nP vs2 ns2 n2 ss2 u hi hoff ho1 ho2 ho3 q1 q2 q3 q4 q5 F N
                refine strs_c q1 (i := i) (by omega) ?_
                intro x tx hx' hxs
                have e1 : (((i : Nat) : Int) + 1).toNat = i + 1 := by omega
                have hsl := strs_len q1
                k_steps
                · rename _ = true => hb
                  rename Fr _ _ _ _ => F9
                  rename News _ _ _ _ => N9
                  rename _ ∈ nxts => hw9
                  rw [e1] at N9
                  refine spt_set F9 N9 q1 q2 (eq_of_beq hb ▸ hxs) hw9 q3 (by assumption) (by omega) hoff fun z hz => skip1 hz
                · rename _ = false => hb
                  rename Fr _ _ _ _ => F9
                  rename News _ _ _ _ => N9
                  refine spt_keep F9 N9 q1 (okI_step q2 (by omega) hxs (fun e => by rw [e] at hb; simp at hb)) q3 q4 q5 hoff fun z hz => skip1 hz
              · clear N8 hr1
                clear F8
                intro h tk vsP nP vs2 ns2 n2 ss2 u q1 q2 q3 q4 q5 F N
                have hlen : ss2.length - 1 = ((ys.length : Int) - 1).toNat := by
                  have := strs_len q1
                  omega
                rw [← hlen] at q2
                have hokp := okI_end q2
                k_steps
                focus (subst hG9; k_steps; done)
                refine Blk.out ?_
                rename IsRange _ _ _ _ _ _ _ _ => hr1
                rename News _ _ _ _ => N8
                have N8 := sweep3 N8
                rename Fr _ _ _ _ => F8
                refine prt_src rfl F8 N8 hr1 (by omega) (by omega) (by assumption) (by omega) (by k_ne) ?_ ?_
                · clear N8 F8 hr1
                  intro g' i ys vs' ns' n' bs tl v I oI C oC D m₂ h tk E' hi j1 j2 j3 j4 j5 j6 j7 hP hC hx F N off _ _ _ ne
                  k_steps
                  refine Blk.out ?_
                  rename Fr _ _ _ _ => F9
                  rename News _ _ _ _ => N9
                  exact prt_end F9 N9 off ⟨by k_ne, by k_ne, by k_ne⟩ (by k_ne) (by k_ne) (by assumption) (by omega) j3 j4 j5
                · clear N8 F8 hr1
                  intro g' ys vs' ns' n' bs tl j1 j2 j3 j4 j5
                  unfold LCg.FinA
                  intro D0 h0 tk0 F0 N0 o0
                  have hD0 := off1_mem o0
                  dsimp only
                  k_steps
                  refine Blk.out ?_
                  refine IfExp_ ?_
                  k_steps
                  refine Blk.out ?_
                  rename Fr _ _ _ _ => F8
                  rename News _ _ _ _ => N8
                  have hbl := j3.length
                  refine LCg.CompSrc.ledger (its := List.toArray _) rfl F8 N8 (.head _) ?sz fun g => ?_
                  case sz => rw [List.size_toArray, sizeLine_eq]; omega
                  clear N8 F8
                  refine compRest_fix (fun i ys' => StrsAre ys' ((bs.take i).map lsw)) ?cs ?cf .nil
                  case cs =>
                    intro i ys' v I oI C oC D m₂ h tk E' hi hy hp hC hx F N off ne
                    refine parts_c j3 hp hx (fun p hp => in_app1 hp hD0) ?_
                    clear hx hp
                    intro p b t xs hx hb hxm hx0
                    k_steps
                    refine Blk.out ?_
                    rename Fr _ _ _ _ => F9
                    rename News _ _ _ _ => N9
                    exact LCg.CompEnd.intro F9 N9 _ (fun _ h => h) off (.inr ⟨_, List.Mem.head _, rfl, _, rfl⟩) ⟨by rw [lsw_take hb]; exact strs_snoc hy _ _, rfl⟩
                  case cf =>
                    intro ys' hy
                    rw [List.size_toArray, hbl, List.take_length] at hy
                    unfold LCg.FinE
                    intro D1 h1 tk1 F1 N1 o1
                    have hD1 := off1_mem o1
                    clear o1
                    dsimp only
                    k_steps
                    · refine Blk.out ?_
                      rename bs.any id = true => hany
                      refine' refuse_use (bs := bs) ?B ?F ?X ?N ?T ?hk ?hg ?hp ?hb ?hd ?hu ?r1 ?r2; (case B => k_asm); (case F => k_asm); (case X => k_asm); (case N => k_asm); (case T => k_asm); (case hk => rfl); (case hg => k_mem); (case hp => k_mem); (case hb => exact j3.mono fun p hp => by simp only [List.mem_cons, List.mem_append, hp, true_or, or_true]); (case hd => ktr_room); (case hu => ktr_units)
                      case r1 =>
                        intro hf
                        rw [hany] at hf
                        cases hf
                      case r2 =>
                        intro _ D5 h5 tk5 t51 t52 t53 F5 hD5 N5
                        dsimp only
                        subst hG9
                        k_steps
                    · refine Blk.out ?_
                      rename bs.any id = false => hany
                      refine' refuse_use (bs := bs) ?B ?F ?X ?N ?T ?hk ?hg ?hp ?hb ?hd ?hu ?r1 ?r2; (case B => k_asm); (case F => k_asm); (case X => k_asm); (case N => k_asm); (case T => k_asm); (case hk => rfl); (case hg => k_mem); (case hp => k_mem); (case hb => exact j3.mono fun p hp => by simp only [List.mem_cons, List.mem_append, hp, true_or, or_true]); (case hd => ktr_room); (case hu => ktr_units)
                      case r2 =>
                        intro hf
                        rw [hany] at hf
                        cases hf
                      case r1 =>
                        intro _ h5 tk5 F5 N5
                        dsimp only
                        subst hG9
                        k_steps
      case w2 =>
        intro ts vs ms k1 k2 a k i kids us b u h tk hms hml hvl hul hi hall hso hok hnode hkids hkok F N
        refine node_c1 hnode ?_
        intro xs t1 hxm hx1
        k_steps
        rename Fr _ _ _ _ => F9
        rename News _ _ _ _ => N9
        refine met_end F9 N9 (fun p hp => .tail _ (.tail _ hp)) hall hso hok hkids hkok hms hi fun z hz => ?_
        simp at hz
        by_cases hw : z = Str.ofString "waiting" <;> simp [hz, hw])
end Mine
end

theorem PySem.Challenge.cw_pq0445_01_holds : PySem.Challenge.rw_pq0445_01.Holds :=
  Mine.law_walk
