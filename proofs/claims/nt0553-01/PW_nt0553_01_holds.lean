import PyProof.Rows.All
import Wide.All
import OpenK.AllK
import Wide.FinOn
import PySem.Challenge.RW_nt0553_01
open PySem PySem.W PyProof.Rows
set_option Elab.async false
set_option maxRecDepth 100000
set_option maxHeartbeats 8000000
namespace Mine
theorem with_three {A B C X : Prop} (hl : A) (hw : B) (hc : C) (main : X) : X := (fun _ => main) (And.intro hl (And.intro hw hc))
theorem pre : (∀ P : Prop, P) → (PySem.Challenge.rw_nt0553_01).Holds := by
  intro f
  refine holds_law (f _) (fun said => ?_)
  apply with_three
  exact f (type_of% ?hl)
  exact f (type_of% ?hw)
  exact f (type_of% ?hc)
  k_head
end Mine
namespace Mine.law_holds
theorem tw6271612750045760366 : True := trivial
theorem tw11539556534233449701 : True := trivial
theorem tw9960142351548082545 : True := trivial
theorem tw3900778236709352535 : True := trivial
theorem tw13536078969547264968 : True := trivial
theorem tw2420028574229687783 : True := trivial
theorem tw12682052423322652342 : True := trivial
theorem tw2498618027001896187 : True := trivial
theorem tw11065903779536590938 : True := trivial
theorem tw17793716333272398654 : True := trivial
theorem tw12013988127634925379 : True := trivial
theorem tw16594112996363208897 : True := trivial
theorem tw11426015686315989412 : True := trivial
theorem tw8417186165934385351 : True := trivial
theorem tw17253691774821329096 : True := trivial
theorem tw520180527934627913 : True := trivial
theorem tw15732109348078318572 : True := trivial
theorem tw1035469204868569938 : True := trivial
theorem tw5731563423909890137 : True := trivial
theorem tw15150646450996357022 : True := trivial
theorem tw17237755526102222789 : True := trivial
theorem tw8720880381367431298 : True := trivial
theorem tw14983226153234331074 : True := trivial
theorem tw10465528174321978529 : True := trivial
theorem tw8191475993861738794 : True := trivial
theorem tw14326059299131336239 : True := trivial
theorem tw4992725456586698614 : True := trivial
theorem tw8330938851228082562 : True := trivial
theorem tw2578278018795888234 : True := trivial
theorem tw7102550790548843376 : True := trivial
theorem tw16009327648451700120 : True := trivial
theorem tw1186782194237197914 : True := trivial
theorem tw2907507879108658156 : True := trivial
theorem tw9634471323475708679 : True := trivial
theorem tw15154110283740273250 : True := trivial
theorem tw16760957895259694429 : True := trivial
theorem tw745255978533919091 : True := trivial
theorem tw4424757036780133433 : True := trivial
theorem tw10247133587077514887 : True := trivial
theorem tw5274592661964301406 : True := trivial
theorem tw2152083551845799040 : True := trivial
theorem tw13800757232730249582 : True := trivial
theorem tw3850404396616230974 : True := trivial
theorem tw5769158387606399586 : True := trivial
theorem tw445335354869643106 : True := trivial
theorem tw6265907326580845545 : True := trivial
theorem tw3882201998751590657 : True := trivial
theorem tw2269544990204364226 : True := trivial
theorem tw784011647948385275 : True := trivial
theorem tw12977093529070104392 : True := trivial
theorem tw52805855287202754 : True := trivial
theorem tw4030767218360268280 : True := trivial
theorem tw16106779387088534511 : True := trivial
theorem tw12303009252429188658 : True := trivial
theorem tw7820799176418779761 : True := trivial
theorem tw8854015012368427407 : True := trivial
theorem tw15191720212996534143 : True := trivial
theorem tw17942709131360195518 : True := trivial
theorem tw545109181885906688 : True := trivial
theorem tw7495221243884187115 : True := trivial
theorem tw7910590604623066228 : True := trivial
theorem tw11924911360389889469 : True := trivial
theorem tw13956741780833797525 : True := trivial
theorem tw12116493165278983582 : True := trivial
theorem tw12459966957829302596 : True := trivial
theorem tw8553002610548859549 : True := trivial
theorem tw17911580528928914924 : True := trivial
theorem tw16978406815995349258 : True := trivial
theorem tw7028051722514972546 : True := trivial
theorem tw4439653461905209652 : True := trivial
theorem tw14828999820898988419 : True := trivial
theorem tw3426384778480675251 : True := trivial
theorem tw11098625913536864229 : True := trivial
theorem tw15609566024721092083 : True := trivial
theorem tw2136269947727277649 : True := trivial
theorem tw653560878884961445 : True := trivial
theorem tw18090433342136740992 : True := trivial
theorem tw7408322871517469003 : True := trivial
theorem tw11764581739189218997 : True := trivial
theorem tw11544315989524547432 : True := trivial
theorem tw6776455111828631412 : True := trivial
theorem tw8514742172934523775 : True := trivial
theorem tw15661869461025623997 : True := trivial
theorem tw1341266762083198811 : True := trivial
theorem tw2295933128562542503 : True := trivial
theorem tw10666784280354678857 : True := trivial
theorem tw1928719863018725356 : True := trivial
theorem tw3438298445031660282 : True := trivial
theorem tw8634839017697508684 : True := trivial
theorem tw13709617746848070560 : True := trivial
theorem tw10566571302883470556 : True := trivial
theorem tw6765152471904792315 : True := trivial
theorem tw11625900857008200698 : True := trivial
theorem tw12626328134170644701 : True := trivial
theorem tw5112083995522966620 : True := trivial
theorem tw11470271118054631628 : True := trivial
theorem tw11484002064277903863 : True := trivial
theorem tw12732824653754844360 : True := trivial
theorem tw11690447701083486646 : True := trivial
theorem tw13301187468288870568 : True := trivial
theorem tw15806970514647361693 : True := trivial
theorem tw1989176631692091739 : True := trivial
theorem tw3756308257209627903 : True := trivial
theorem tw9255152265573255198 : True := trivial
theorem tw7304591109411159013 : True := trivial
theorem tw12134408205421670959 : True := trivial
theorem tw8266603773606604290 : True := trivial
theorem tw2643271747718453845 : True := trivial
theorem tw15802469936163623734 : True := trivial
theorem tw9606376775287448836 : True := trivial
theorem tw2644310842459337959 : True := trivial
theorem tw179590077315354965 : True := trivial
theorem tw17027635718292003107 : True := trivial
theorem tw10242277825702978295 : True := trivial
theorem tw4323815956820902445 : True := trivial
theorem tw5080938098583758604 : True := trivial
theorem tw4581845663705801772 : True := trivial
theorem tw4515466672771955728 : True := trivial
theorem tw9069877914133315304 : True := trivial
theorem tw15274831704391544125 : True := trivial
theorem tw9843604407834444796 : True := trivial
theorem tw10188763426450519768 : True := trivial
theorem tw14497384708736915567 : True := trivial
theorem tw2102315897755806987 : True := trivial
theorem tw16098122237329998606 : True := trivial
theorem tw11404014056486942332 : True := trivial
theorem tw7497986649931050792 : True := trivial
theorem tw13280740594461564331 : True := trivial
theorem tw12419048959643632839 : True := trivial
theorem tw1670043908289496885 : True := trivial
theorem tw576407869801174206 : True := trivial
theorem tw12296726922439171297 : True := trivial
theorem tw3850375180904979519 : True := trivial
theorem tw5455921660152230842 : True := trivial
theorem tw2124134355350193313 : True := trivial
theorem tw11803358882649189518 : True := trivial
theorem tw4524032621918665186 : True := trivial
theorem tw14991590004735058009 : True := trivial
theorem tw2558664710541493025 : True := trivial
theorem tw6727219029552735585 : True := trivial
theorem tw15617896438947887921 : True := trivial
theorem tw2075624079617657780 : True := trivial
theorem tw11126432536435168541 : True := trivial
theorem tw2322801206320994539 : True := trivial
theorem tw12889673554181485818 : True := trivial
theorem tw10876394233666535175 : True := trivial
theorem tw8785698371604719795 : True := trivial
theorem tw10609929442622069884 : True := trivial
theorem tw9682718004065560343 : True := trivial
theorem tw13397297893571687751 : True := trivial
theorem tw6317479115527610633 : True := trivial
theorem tw2842810181116790245 : True := trivial
theorem tw4614512636035447770 : True := trivial
theorem tw8909828626151137519 : True := trivial
theorem tw13402424001964919149 : True := trivial
theorem tw440325148559900515 : True := trivial
theorem tw12223724995276690173 : True := trivial
theorem tw11097350217990362986 : True := trivial
theorem tw16836969012518115619 : True := trivial
theorem tw14997073306097389879 : True := trivial
theorem tw16893121556090616931 : True := trivial
theorem tw14289194402921355359 : True := trivial
theorem tw2618386414584295968 : True := trivial
theorem tw13028658284911697911 : True := trivial
theorem tw13958071646730322851 : True := trivial
theorem tw9552830710289189752 : True := trivial
theorem tw15607887362523206001 : True := trivial
theorem tw724200737284857819 : True := trivial
theorem tw6934448944433832347 : True := trivial
theorem tw17253903310271361901 : True := trivial
theorem tw3186734533307500241 : True := trivial
theorem tw8984712037535005518 : True := trivial
theorem tw16947615914383616782 : True := trivial
theorem tw10368410895845634921 : True := trivial
theorem tw13220211186989608806 : True := trivial
theorem tw4916342969005030805 : True := trivial
theorem tw14904137174637212347 : True := trivial
theorem tw15472126771306010800 : True := trivial
theorem tw11347954631545130290 : True := trivial
theorem tw3756957479349018193 : True := trivial
theorem tw14051398506283589457 : True := trivial
theorem tw7987511773015428622 : True := trivial
theorem tw4441770287765753910 : True := trivial
theorem tw6869992995446874880 : True := trivial
theorem tw14335913921861858828 : True := trivial
theorem tw123295346585929383 : True := trivial
theorem tw2043166853727251185 : True := trivial
theorem tw13650905803964671038 : True := trivial
theorem tw1622690429015379626 : True := trivial
theorem tw12831907817818079685 : True := trivial
theorem tw2503670479209048990 : True := trivial
theorem tw575232530192455986 : True := trivial
theorem tw10841264019214440115 : True := trivial
theorem tw8835965917227929528 : True := trivial
theorem tw1377309892636839040 : True := trivial
theorem tw10958410103948607464 : True := trivial
theorem tw18340598423539479173 : True := trivial
theorem tw3366817510852727610 : True := trivial
theorem tw8857742495270377987 : True := trivial
theorem tw8285764192309689115 : True := trivial
theorem tw7185456241796803578 : True := trivial
theorem tw6705572975649533264 : True := trivial
theorem tw16720094985154256693 : True := trivial
theorem tw16348015451128041105 : True := trivial
theorem tw1905533677188600702 : True := trivial
theorem tw4889031023730116350 : True := trivial
theorem tw9529696498207198238 : True := trivial
theorem tw13882729330811710610 : True := trivial
theorem tw18203989763732354715 : True := trivial
theorem tw6507877686720480950 : True := trivial
theorem tw4838757002406519714 : True := trivial
theorem tw11182679623053108816 : True := trivial
theorem tw16614716721108272449 : True := trivial
theorem tw14571795756577361901 : True := trivial
theorem tw12476058986133298565 : True := trivial
theorem tw5506821171919863439 : True := trivial
theorem tw3910120701321347557 : True := trivial
theorem tw17255088995462705879 : True := trivial
theorem tw9779807473162285230 : True := trivial
theorem tw3035144380315620824 : True := trivial
theorem tw14822640431511872941 : True := trivial
theorem tw1762888911704233025 : True := trivial
theorem tw13431030151845061361 : True := trivial
theorem tw6896717019858035522 : True := trivial
theorem tw5640673133297012132 : True := trivial
theorem tw4273555757443719353 : True := trivial
theorem tw10028117763298573888 : True := trivial
theorem tw7120836010843673076 : True := trivial
theorem tw3776956092104397036 : True := trivial
theorem tw17180001009569633970 : True := trivial
theorem tw699380112222796084 : True := trivial
theorem tw718173064312146323 : True := trivial
theorem tw11677100312832694166 : True := trivial
theorem tw10264638600885302300 : True := trivial
theorem tw16381176275627223697 : True := trivial
theorem tw8441880690091102137 : True := trivial
theorem tw2387193687640843687 : True := trivial
theorem tw4593294709026258786 : True := trivial
theorem tw14596297492920191028 : True := trivial
theorem tw1767730674963353768 : True := trivial
theorem tw16273140198857503625 : True := trivial
theorem tw2006301483956418059 : True := trivial
theorem tw3682559726232862161 : True := trivial
theorem tw11966672015165255308 : True := trivial
theorem tw15014403891855920072 : True := trivial
theorem tw12342728606916771844 : True := trivial
theorem tw12835091436910803158 : True := trivial
theorem tw2090888555730037645 : True := trivial
theorem tw10371022188087798493 : True := trivial
theorem tw9849722394096787677 : True := trivial
theorem tw17993387198741990920 : True := trivial
theorem tw8249079356659094474 : True := trivial
theorem tw9184033795430018204 : True := trivial
theorem tw14498155544194170393 : True := trivial
theorem tw18234560199702728603 : True := trivial
theorem tw10817052189556005596 : True := trivial
theorem tw907578622648922086 : True := trivial
theorem tw6927793712695671261 : True := trivial
theorem tw7356724547972884604 : True := trivial
theorem tw16563099163409725306 : True := trivial
theorem tw3956099054510807996 : True := trivial
theorem tw7221428835167493151 : True := trivial
theorem tw5212653520564569363 : True := trivial
theorem tw5920216800500632969 : True := trivial
theorem tw11100686419730198450 : True := trivial
theorem tw1385162719727133579 : True := trivial
theorem tw6499956759230125245 : True := trivial
theorem tw4818577856007422655 : True := trivial
theorem tw18261290160731607033 : True := trivial
theorem tw13780023080261437657 : True := trivial
theorem tw3253820488102484341 : True := trivial
theorem tw16406091861079842607 : True := trivial
theorem tw14872900085578418628 : True := trivial
theorem tw10007947361888340627 : True := trivial
theorem tw15448297888555860652 : True := trivial
theorem tw12456547296908542839 : True := trivial
theorem tw9288214680346807717 : True := trivial
theorem tw11289095316329951393 : True := trivial
theorem tw3742325753681652743 : True := trivial
theorem tw8549365171731915398 : True := trivial
theorem tw9168033884955339765 : True := trivial
theorem tw4329158554759489670 : True := trivial
theorem tw17499823404086765753 : True := trivial
theorem tw10296202853966499060 : True := trivial
theorem tw4370086069003782432 : True := trivial
theorem tw3850334171643177529 : True := trivial
theorem tw6159533029260741167 : True := trivial
theorem tw13250372474279835810 : True := trivial
theorem tw7407239408455114201 : True := trivial
theorem tw14545874151571354728 : True := trivial
theorem tw602461330855297101 : True := trivial
theorem tw15883345262158282383 : True := trivial
theorem tw12115171985352901274 : True := trivial
theorem tw447027507633508388 : True := trivial
theorem tw14160533322030094474 : True := trivial
theorem tw6860709855171689206 : True := trivial
theorem tw6861490101519172755 : True := trivial
theorem tw8652346329174877282 : True := trivial
theorem tw3158129796062787159 : True := trivial
theorem tw6667284449218939238 : True := trivial
theorem tw18254337876149969668 : True := trivial
theorem tw14385925486924208373 : True := trivial
theorem tw15694993059591697976 : True := trivial
theorem tw14925382992726071281 : True := trivial
theorem tw10024239376800412576 : True := trivial
theorem tw1819975233463548508 : True := trivial
end Mine.law_holds
namespace Mine
local macro_rules | `(tactic| walk_at $s:str) => `(tactic| k_extra $s)
local macro_rules | `(tactic| k_all) => `(tactic| k_extra "k_all")
local macro_rules | `(tactic| k_mem) => `(tactic| k_extra "k_mem")
local macro_rules | `(tactic| lcg_off) => `(tactic| k_extra "lcg_off")
local macro_rules | `(tactic| k_ne) => `(tactic| k_extra "k_ne")
local macro_rules | `(tactic| lcg_sub) => `(tactic| k_extra "lcg_sub")
-- NtBase
section
open PySem PySem.W PySem.Spec PySem.Calls PyProof.Rows PySem.SeqAt
abbrev Led := List (Addr × Obj)
/-- a call of the def at f, over a ledger; Ret says what a return hands on -/
abbrev Con (w : World) (f : Addr) (vs : List Value) (news : Led) (dN : Nat) (Ret : Heap → Addr → (Str → Option Value) → (Value → Heap → Nat → Prop) → Prop) : Prop :=
  ∀ (mean : ExcName → Option Value) (mg mb : Str → Option Value) (dp un : Nat) (gd : Option (List Code)) (cn : Str) (cs : Scope) (a : Addr) (ccd : Value) (cl : List (Str × Addr)) (outer : List Env) (A₀ : Around) (base h₀ : Heap) (L : Addr) (m : Str → Option Value) (s : Shared) (Q E : Value → Shared → Prop),
    Below A₀ base outer h₀ → Fr h₀ L s.heap m → (Mine.pre.heap_1 w.params).In h₀ → News h₀ L s.heap news → Top Mine.pre.view_1 (looseW Mine.pre.view_1 [Str.ofString "HALF"]) mean mg mb h₀ → cs.kind = .function → dp + dN < recursionLimit → un + 8 * dN < cLine →
    Ret h₀ L m (fun v h' tk' => Q v { s with heap := h', toks := tk' }) →
    wpAny (model Challenge.rw_nt0553_01.row.prog w) (ktrTop dp un gd cn cs L a ccd cl outer) (call (.ref f) vs) Q E s

inductive Pick (p : Addr × Obj) : Led → Led → Prop
  | head {r : Led} : Pick p (p :: r) r
  | tail {q : Addr × Obj} {r r' : Led} : Pick p r r' → Pick p (q :: r) (q :: r')
theorem Pick.sub {p : Addr × Obj} : ∀ {n r : Led}, Pick p n r → ∀ q ∈ p :: r, q ∈ n
  | _, _, .head => fun _ h => h
  | _, _, .tail P => fun q h => by
    rcases List.mem_cons.mp h with rfl | h
    · exact .tail _ (P.sub _ (.head _))
    · rcases List.mem_cons.mp h with rfl | h
      · exact .head _
      · exact .tail _ (P.sub _ (.tail _ h))
theorem nt_pick {h₀ h : Heap} {L : Addr} {news rest : Led} {p : Addr × Obj} (N : News h₀ L h news) (P : Pick p news rest) : News h₀ L h (p :: rest) := fun q hq => N q (P.sub q hq)
theorem off1_all {D : Addr} : ∀ {l : Led}, LCg.Off1 D l → ∀ p ∈ l, p.1 ≠ D
  | [], _, _, h => nomatch h
  | _ :: _, x, p, h => by
    rcases List.mem_cons.mp h with rfl | h
    · exact x.1
    · exact off1_all x.2 p h
theorem off1_of {D : Addr} : ∀ {l : Led}, (∀ p ∈ l, p.1 ≠ D) → LCg.Off1 D l
  | [], _ => trivial
  | _ :: _, h => ⟨h _ (.head _), off1_of fun p hp => h p (.tail _ hp)⟩
theorem off1_lt {D : Addr} : ∀ {l : Led}, AllLt D l → LCg.Off1 D l
  | [], _ => trivial
  | _ :: _, h => ⟨Nat.ne_of_lt h.1, off1_lt h.2⟩
theorem nt_compEnd {h₀ : Heap} {L I C D : Addr} {m : Str → Option Value} {s₁ : Shared} {oI oC oD : Obj} {S : Led → Prop} {rest : Value → Led → Prop} {y : Value} {h' : Heap} {tk : Nat} {all r1 r2 news' : Led}
    (F : Fr h₀ L h' m) (N : News h₀ L h' all) (P1 : Pick (I, oI) all r1) (P2 : Pick (C, oC) r1 r2) (P3 : Pick (D, oD) r2 news') (off : LCg.Off3 I C D news') (hS : S news') (r : rest y news') :
    LCg.CompEnd h₀ L m s₁ I oI C oC D oD S rest y { s₁ with heap := h', toks := tk } :=
  LCg.CompEnd.intro F N news' (fun p hp => by
    rcases List.mem_cons.mp hp with rfl | hp
    · exact P1.sub _ (.head _)
    · rcases List.mem_cons.mp hp with rfl | hp
      · exact P1.sub _ (.tail _ (P2.sub _ (.head _)))
      · exact P1.sub _ (.tail _ (P2.sub _ (.tail _ (P3.sub _ hp))))) off hS r
theorem allLt_ne {d c : Addr} : ∀ {l : Led}, AllLt d l → @LE.le Nat _ d c → ∀ p ∈ l, p.1 ≠ c
  | [], _, _, _, h => nomatch h
  | _ :: _, x, hc, p, h => by
    rcases List.mem_cons.mp h with rfl | h
    · exact Nat.ne_of_lt (Nat.lt_of_lt_of_le x.1 hc)
    · exact allLt_ne x.2 hc p h
theorem nt_drop {h₀ h : Heap} {L : Addr} {all r1 news : Led} {p : Addr × Obj} (N : News h₀ L h all) (P : Pick p all r1) (hs : ∀ q ∈ news, q ∈ r1) : News h₀ L h (p :: news) := fun q hq => by
  rcases List.mem_cons.mp hq with rfl | hq
  · exact N _ (P.sub _ (.head _))
  · exact N _ (P.sub _ (.tail _ (hs _ hq)))
theorem p16 : (2 : Int) ^ Int.toNat 16 = 65536 := by decide
theorem fd16 (x : Int) : x.fdiv (2 ^ Int.toNat 16) = x / 65536 := by rw [p16]; exact Int.fdiv_eq_ediv_of_nonneg _ (by decide)
theorem Con.use {w : World} {f : Addr} {vs : List Value} {news : Led} {dN : Nat} {Ret : Heap → Addr → (Str → Option Value) → (Value → Heap → Nat → Prop) → Prop}
    {mean : ExcName → Option Value} {mg mb : Str → Option Value} {dp un : Nat} {gd : Option (List Code)} {cn : Str} {cs : Scope} {a : Addr} {ccd : Value} {cl : List (Str × Addr)} {outer : List Env} {A₀ : Around} {base h₀ : Heap} {L : Addr} {m : Str → Option Value} {s : Shared} {Q E : Value → Shared → Prop}
    (C : Con w f vs news dN Ret) (B : Below A₀ base outer h₀) (F : Fr h₀ L s.heap m) (X : (Mine.pre.heap_1 w.params).In h₀) (N : News h₀ L s.heap news) (T : Top Mine.pre.view_1 (looseW Mine.pre.view_1 [Str.ofString "HALF"]) mean mg mb h₀) (hk : cs.kind = .function) (hd : dp + dN < recursionLimit) (hu : un + 8 * dN < cLine)
    (ret : Ret h₀ L m (fun v h' tk' => Q v { s with heap := h', toks := tk' })) :
    wpAny (model Challenge.rw_nt0553_01.row.prog w) (ktrTop dp un gd cn cs L a ccd cl outer) (call (.ref f) vs) Q E s :=
  C mean mg mb dp un gd cn cs a ccd cl outer A₀ base h₀ L m s Q E B F X N T hk hd hu ret

theorem gen_toks {α : Type} {M : Model} {A : Around} {t : Sem α} {Q : α → Shared → Prop} {E : Value → Shared → Prop} {h : Heap} {g : Array GenState} {d : Drawn} {X : Nat} {o : OsState}
    (H : ∀ tk : Nat, wpAny M A t Q E ⟨h, g, d, tk, o⟩) : wpAny M A t Q E ⟨h, g, d, X, o⟩ := H X
def nth : List Value → Nat → Option Value
  | [], _ => none
  | x :: _, 0 => some x
  | _ :: r, k + 1 => nth r k
theorem nth_eq : ∀ (l : List Value) (k : Nat), nth l k = l[k]?
  | [], _ => rfl
  | _ :: _, 0 => rfl
  | _ :: r, k + 1 => by simpa [nth] using nth_eq r k
section
variable {prog : Program} {w : World} {A : Around} {E : Value → Shared → Prop} {s : Shared} {h₀ : Heap} {L l : Addr} {m : Str → Option Value} {news : List (Addr × Obj)} {its : Array Value} {c : Nat} {k : Int} {u : Tok} {v : Value}
theorem nt_item {value slice : PySem.Expr} {Q : Value → Shared → Prop} (N : News h₀ L s.heap news) (hm : (l, listOf its c) ∈ news) (h0 : 0 ≤ k) (hhi : k < 2 ^ 63) (hx : nth its.toList k.toNat = some v) (h : Q v s)
    (hs : subscripted slice false (.ref l) (.int k u) = operate [.ref l, .int k u] (getItem (.ref l) (.int k u)) := by with_unfolding_all rfl) :
    wpAny (model prog w) A (subscriptTail value slice (.ref l) (.int k u)) Q E s :=
  have hl : s.heap.IsList l its := PySem.IsL.isList (n := c) (N _ hm).1
  tail_any hl.typeIs slot_list_getitem.lookup (wpAny_getItem_list hl h0 hhi (by rw [nth_eq] at hx; simpa using hx) h) hs
theorem nt_itemK {K : Frag} {od : Option Addr} {sl : Array (Option Value)} {value slice : PySem.Expr} {Q : Value → Shared → Prop} (X : K.In h₀) (F : Fr h₀ L s.heap m) (hl : K.lookup l = some ⟨.type "tuple", od, .seq its c, sl⟩) (h0 : 0 ≤ k) (hhi : k < 2 ^ 63) (hx : nth its.toList k.toNat = some v) (h : Q v s)
    (hs : subscripted slice false (.ref l) (.int k u) = operate [.ref l, .int k u] (getItem (.ref l) (.int k u)) := by with_unfolding_all rfl) (hg : ∀ r, letTemporaryGo value (.ref l) r = pure () := by intro _; with_unfolding_all rfl) :
    wpAny (model prog w) A (subscriptTail value slice (.ref l) (.int k u)) Q E s := by
  rw [nth_eq] at hx
  have hk : its[k.toNat]? = some v := by simpa using hx
  have hlt : k.toNat < its.size := (Array.getElem?_eq_some_iff.mp hk).1
  refine item_tuple (j := k.toNat) ⟨_, F.keep _ _ (X _ _ hl), rfl, c, rfl⟩ (by omega) hhi ?_ hk h hs hg
  unfold seqIndex?
  first | (simp; omega) | (split <;> simp <;> omega)
theorem nt_itemT {value slice : PySem.Expr} {Q : Value → Shared → Prop} (N : News h₀ L s.heap news) (hm : (l, ({ cls := .type "tuple", data := .seq its c } : Obj)) ∈ news) (h0 : 0 ≤ k) (hhi : k < 2 ^ 63) (hx : nth its.toList k.toNat = some v) (h : Q v s)
    (hs : subscripted slice false (.ref l) (.int k u) = operate [.ref l, .int k u] (getItem (.ref l) (.int k u)) := by with_unfolding_all rfl) (hg : ∀ r, letTemporaryGo value (.ref l) r = pure () := by intro _; with_unfolding_all rfl) :
    wpAny (model prog w) A (subscriptTail value slice (.ref l) (.int k u)) Q E s := by
  rw [nth_eq] at hx
  have hk : its[k.toNat]? = some v := by simpa using hx
  have hlt : k.toNat < its.size := (Array.getElem?_eq_some_iff.mp hk).1
  refine item_tuple (j := k.toNat) ⟨_, (N _ hm).1, rfl, c, rfl⟩ (by omega) hhi ?_ hk h hs hg
  unfold seqIndex?
  first | (simp; omega) | (split <;> simp <;> omega)
theorem nt_rlist {h : Heap} {a : Addr} {xs : List PyData} {as : List Addr} (N : News h₀ L h news) (hm : (a, listOf its c) ∈ news) (r : ReadsAll h its.toList xs as) : Reads h (.ref a) (.list xs) (a :: as) := Reads.list (N _ hm).1 rfl rfl r
theorem nt_rtup {h : Heap} {a : Addr} {xs : List PyData} {as : List Addr} (N : News h₀ L h news) (hm : (a, ({ cls := .type "tuple", data := .seq its c } : Obj)) ∈ news) (r : ReadsAll h its.toList xs as) : Reads h (.ref a) (.tuple xs) as := Reads.tuple (N _ hm).1 rfl rfl r
theorem nt_ne {a b : Value} {da db : PyData} {as bs : List Addr} {Q : Value → Shared → Prop} (ra : Reads s.heap a da as) (rb : Reads s.heap b db bs) (e : da = db) (hsh : shaped da = true) (hmix : noMix da da = true) (hu : A.units + 64 < cLine)
    (h : Q (.bool false) s) : wpAny (model prog w) A (compareOp .NotEq a b) Q E s := by
  subst e
  exact ne_dataH_same ra rb hsh hsh hu hmix (by rw [same_refl]; exact h)
theorem nt_eq {a b : Value} {da db : PyData} {as bs : List Addr} {Q : Value → Shared → Prop} (ra : Reads s.heap a da as) (rb : Reads s.heap b db bs) (e : da = db) (hsh : shaped da = true) (hmix : noMix da da = true) (hu : A.units + 64 < cLine)
    (h : Q (.bool true) s) : wpAny (model prog w) A (compareOp .Eq a b) Q E s := by
  subst e
  exact eq_dataH_same ra rb hsh hsh hu hmix (by rw [same_refl]; exact h)
theorem nt_sub {h₀ h : Heap} {L : Addr} {all news : Led} (N : News h₀ L h all) (hs : ∀ q ∈ news, q ∈ all) : News h₀ L h news := fun q hq => N q (hs q hq)
end
end
local macro_rules | `(tactic| k_room) => `(tactic| (k_extra "k_room"; ((try simp only [depth_mark, depth_under_make, depth_under_kw, depth_in1, depth_deeper, depth_caller]); (try dsimp only [ktrTop]); omega)))
local macro_rules | `(tactic| units_room) => `(tactic| (k_extra "units_room"; ((try simp only [units_under_make, units_in1, units_deeper, Around.mark_units, units_caller]); (try dsimp only [ktrTop]); omega)))
-- NtTake
section
open PySem PySem.W PySem.Spec PySem.Calls PyProof.Rows PySem.SeqAt
abbrev srcObj (c : Nat) (i j : Int) (ti tj : Tok) : Obj := listOf #[.int i ti, .int j tj] c
theorem c_take0 (w : World) (src : Addr) (i j : Int) (ti tj : Tok) (c : Nat) (rest : Led) (hne : ∀ p ∈ rest, p.1 ≠ src) (top : Int) (tt : Tok) (h0 : 0 ≤ i) (hj : 0 ≤ j ∧ j < 2147483647) (ht : 1 ≤ top ∧ top ≤ 256) :
   Con w 275 [.ref src, .int top tt] ((src, srcObj c i j ti tj) :: rest) 1
   (fun h₀ L m Q => ∀ (d i' j' : Int) (td ti' tj' : Tok) (h' : Heap) (tk' : Nat), 0 ≤ i' → (0 ≤ j' ∧ j' < 2147483647) → 0 ≤ d → d < top → Fr h₀ L h' m → News h₀ L h' ((src, srcObj c i' j' ti' tj') :: rest) → Q (.int d td) h' tk') := by
  w_top off
  k_with_none
  k_with "k_room" => skip
  k_with "units_room" => skip
  k_with "k_all" => assumption
  k_with "execs cons" => ((with_reducible refine gen_toks (fun tk => ?_)); (with_reducible refine wpAny_execs_cons ?_); (try dsimp only); (try k_fold))
  k_with "subscriptTail" => (k_here; (with_reducible show wpAny _ _ (subscriptTail _ _ (Value.ref _) (Value.int _ _)) _ _ _); k_dflt (refine' nt_item ?N ?hm ?k2 ?k3 ?k4 ?_ ?k6; (case N => k_asm); (case hm => k_mem); (case k2 => decide); (case k3 => decide); (case k4 => exact rfl); (case k6 => with_unfolding_all rfl); k_whole))
  k_with "subscriptTail Name Constant ref int" => (k_here; (with_reducible show wpAny _ _ (subscriptTail _ _ (Value.ref _) (Value.int _ _)) _ _ _); k_dflt (refine' nt_item ?N ?hm ?k2 ?k3 ?k4 ?_ ?k6; (case N => k_asm); (case hm => k_mem); (case k2 => decide); (case k3 => decide); (case k4 => exact rfl); (case k6 => with_unfolding_all rfl); k_whole))
  k_with "subscriptTail Name Name ref int" => (k_here; (with_reducible show wpAny _ _ (subscriptTail _ _ (Value.ref _) (Value.int _ _)) _ _ _); k_dflt (refine' nt_item ?N ?hm ?k2 ?k3 ?k4 ?_ ?k6; (case N => k_asm); (case hm => k_mem); (case k2 => decide); (case k3 => decide); (case k4 => exact rfl); (case k6 => with_unfolding_all rfl); k_whole))
  k_with "subscriptTail Attribute Name Constant ref int" => (k_here; (with_reducible show wpAny _ _ (subscriptTail _ _ (Value.ref _) (Value.int _ _)) _ _ _); k_dflt (refine' nt_item ?N ?hm ?k2 ?k3 ?k4 ?_ ?k6; (case N => k_asm); (case hm => k_mem); (case k2 => decide); (case k3 => decide); (case k4 => exact rfl); (case k6 => with_unfolding_all rfl); k_whole))
  k_with "subscriptTail Attribute Name Name ref int" => (k_here; (with_reducible show wpAny _ _ (subscriptTail _ _ (Value.ref _) (Value.int _ _)) _ _ _); k_dflt (refine' nt_item ?N ?hm ?k2 ?k3 ?k4 ?_ ?k6; (case N => k_asm); (case hm => k_mem); (case k2 => decide); (case k3 => decide); (case k4 => exact rfl); (case k6 => with_unfolding_all rfl); k_whole))
  k_with "subscriptTail Subscript Name ref int" => (k_here; (with_reducible show wpAny _ _ (subscriptTail _ _ (Value.ref _) (Value.int _ _)) _ _ _); k_dflt (refine' nt_item ?N ?hm ?k2 ?k3 ?k4 ?_ ?k6; (case N => k_asm); (case hm => k_mem); (case k2 => decide); (case k3 => decide); (case k4 => exact rfl); (case k6 => with_unfolding_all rfl); k_whole))
  k_with "subscriptTail Subscript Constant ref int" => (k_here; (with_reducible show wpAny _ _ (subscriptTail _ _ (Value.ref _) (Value.int _ _)) _ _ _); k_dflt (refine' nt_item ?N ?hm ?k2 ?k3 ?k4 ?_ ?k6; (case N => k_asm); (case hm => k_mem); (case k2 => decide); (case k3 => decide); (case k4 => exact rfl); (case k6 => with_unfolding_all rfl); k_whole))
  k_with "setItem ref int" => (k_here; k_dflt (refine' ki_set ?F ?N ?k2 ?k3 ?k4 ?U ?_; (case F => k_asm); (case N => k_asm); (case U => k_upd); (case k2 => decide); (case k3 => decide); (case k4 => exact rfl); k_whole); intro h' F' N'; (try k_sweep))
  k_with "eval Name" => (k_here; (with_reducible show wpAny _ _ (eval (Expr.Name _ _) (envOf _ _ _ _ _)) _ _ _); (with_reducible rename Fr _ _ _ _ => kF); k_dflt (first | (refine' ld kF ?k2 ?_; (case k2 => exact rfl); k_whole) | (refine' name_K kF ?k1 ?k2 ?k3 ?_; (case k1 => k_asm); (case k2 => k_asm); (case k3 => k_is); k_whole) | (refine' name_B kF ?k1 ?k2 ?k3 ?k4 ?k5 ?_; (case k1 => k_asm); (case k2 => k_asm); (case k3 => k_is); (case k4 => boot_by_name); (case k5 => decide); k_whole)))
  unfold Con
  k_fill
  intro mean mg mb dp un gd cn cs a ccd cl outer A₀ base h₀ L m s Q E B F X N T hk hd hu hret
  refine wpAny_call ?_
  k_dflt ktr_enter
  k_steps
  all_goals (refine' hret _ _ _ _ _ _ _ _ _ _ _ _ ?F ?N; (case F => assumption); (case N => assumption))
  · exact Int.fdiv_nonneg h0 (by omega)
  · exact hj
  · exact Int.fmod_nonneg_of_pos _ (by omega)
  · exact Int.fmod_lt_of_pos _ (by omega)
  · exact h0
  · exact ⟨Int.fmod_nonneg_of_pos _ (by omega), Int.fmod_lt_of_pos _ (by omega)⟩
  · exact Int.fmod_nonneg_of_pos _ (by omega)
  · exact Int.fmod_lt_of_pos _ (by omega)
end
-- NtCol
section
open PySem PySem.W PySem.Spec PySem.Calls PyProof.Rows PySem.SeqAt
abbrev tupOf (its : Array Value) (n : Nat) : Obj := { cls := .type "tuple", data := .seq its n }
/-- the middle of the samples -/
def mid (p : Int) : Int := 2 ^ (p - 1).toNat
def fY (r g b : Int) : Int := (19595 * r + 38470 * g + 7471 * b + 32768) / 65536
def fCb (M r g b : Int) : Int := (-11058 * r + -21710 * g + 32768 * b + M * 65536 + 32768 - 1) / 65536
def fCr (M r g b : Int) : Int := (32768 * r + -27439 * g + -5329 * b + M * 65536 + 32768 - 1) / 65536
def cl (v most : Int) : Int := if v < 0 then 0 else if v < most then v else most
def fR (M y _cb cr : Int) : Int := cl (y + (91881 * (cr - M) + 32768) / 65536) (2 * M - 1)
def fG (M y cb cr : Int) : Int := cl (y + (32768 - 22553 * (cb - M) - 46802 * (cr - M)) / 65536) (2 * M - 1)
def fB (M y cb _cr : Int) : Int := cl (y + (116130 * (cb - M) + 32768) / 65536) (2 * M - 1)
theorem mid_le {p : Int} (h : 2 ≤ p ∧ p ≤ 8) : 2 ≤ mid p ∧ mid p ≤ 128 := by
  obtain ⟨h1, h2⟩ := h
  have : p = 2 ∨ p = 3 ∨ p = 4 ∨ p = 5 ∨ p = 6 ∨ p = 7 ∨ p = 8 := by omega
  rcases this with rfl | rfl | rfl | rfl | rfl | rfl | rfl <;> decide
theorem pow_mid {p : Int} (h : 2 ≤ p ∧ p ≤ 8) : (2 : Int) ^ p.toNat = 2 * mid p := by
  obtain ⟨h1, h2⟩ := h
  have : p = 2 ∨ p = 3 ∨ p = 4 ∨ p = 5 ∨ p = 6 ∨ p = 7 ∨ p = 8 := by omega
  rcases this with rfl | rfl | rfl | rfl | rfl | rfl | rfl <;> decide
/-- what is asked of light and the differences -/
structure YccOk (M r g b y cb cr : Int) : Prop where
  y1 : -507 ≤ 1000 * y - (299 * r + 587 * g + 114 * b)
  y2 : 1000 * y - (299 * r + 587 * g + 114 * b) ≤ 507
  b1 : -900 ≤ 1772 * (cb - M) - (1000 * b - (299 * r + 587 * g + 114 * b))
  b2 : 1772 * (cb - M) - (1000 * b - (299 * r + 587 * g + 114 * b)) ≤ 900
  r1 : -712 ≤ 1402 * (cr - M) - (1000 * r - (299 * r + 587 * g + 114 * b))
  r2 : 1402 * (cr - M) - (1000 * r - (299 * r + 587 * g + 114 * b)) ≤ 712
  y3 : 0 ≤ y
  y4 : y ≤ 2 * M - 1
  b3 : 0 ≤ cb
  b4 : cb ≤ 2 * M - 1
  r3 : 0 ≤ cr
  r4 : cr ≤ 2 * M - 1
  grey : r = g → g = b → y = r ∧ cb = M ∧ cr = M
theorem ycc_ok {M r g b : Int} (hM : 2 ≤ M ∧ M ≤ 128) (hr : 0 ≤ r ∧ r ≤ 2 * M - 1) (hg : 0 ≤ g ∧ g ≤ 2 * M - 1) (hb : 0 ≤ b ∧ b ≤ 2 * M - 1) : YccOk M r g b (fY r g b) (fCb M r g b) (fCr M r g b) := by
  unfold fY fCb fCr
  refine ⟨?_, ?_, ?_, ?_, ?_, ?_, ?_, ?_, ?_, ?_, ?_, ?_, ?_⟩ <;> omega
structure BackOk (r g b r' g' b' : Int) : Prop where
  r1 : -1 ≤ r' - r
  r2 : r' - r ≤ 1
  g1 : -1 ≤ g' - g
  g2 : g' - g ≤ 1
  b1 : -1 ≤ b' - b
  b2 : b' - b ≤ 1
  grey : r = g → g = b → r' = r ∧ g' = g ∧ b' = b
theorem cl_near {v most x : Int} (h : 0 ≤ x ∧ x ≤ most) (h1 : -1 ≤ v - x) (h2 : v - x ≤ 1) : -1 ≤ cl v most - x ∧ cl v most - x ≤ 1 := by
  unfold cl; (repeat' split) <;> omega
theorem cl_same {v most x : Int} (h : 0 ≤ x ∧ x ≤ most) (e : v = x) : cl v most = x := by
  unfold cl; (repeat' split) <;> omega
theorem back_ok {M r g b y cb cr : Int} (hM : 2 ≤ M ∧ M ≤ 128) (hr : 0 ≤ r ∧ r ≤ 2 * M - 1) (hg : 0 ≤ g ∧ g ≤ 2 * M - 1) (hb : 0 ≤ b ∧ b ≤ 2 * M - 1) (ey : y = fY r g b) (eb : cb = fCb M r g b) (er : cr = fCr M r g b) :
    BackOk r g b (fR M y cb cr) (fG M y cb cr) (fB M y cb cr) := by
  have hgrey : r = g → g = b → y = r ∧ cb = M ∧ cr = M := by rw [ey, eb, er]; exact (ycc_ok hM hr hg hb).grey
  unfold fY at ey
  unfold fCb at eb
  unfold fCr at er
  have a1 := cl_near (v := y + (91881 * (cr - M) + 32768) / 65536) hr (by omega) (by omega)
  have a2 := cl_near (v := y + (32768 - 22553 * (cb - M) - 46802 * (cr - M)) / 65536) hg (by omega) (by omega)
  have a3 := cl_near (v := y + (116130 * (cb - M) + 32768) / 65536) hb (by omega) (by omega)
  refine ⟨a1.1, a1.2, a2.1, a2.2, a3.1, a3.2, fun e1 e2 => ?_⟩
  obtain ⟨q1, q2, q3⟩ := hgrey e1 e2
  exact ⟨cl_same hr (by rw [q1, q3]; omega), cl_same hg (by rw [q1, q2, q3]; omega), cl_same hb (by rw [q1, q2]; omega)⟩
section
variable {prog : Program} {w : World} {A : Around} {E : Value → Shared → Prop} {s : Shared} {p : Int} {t u : Tok} {Q : Value → Shared → Prop}
theorem nt_pow (hp : 2 ≤ p ∧ p ≤ 8) (h : Q (.int (2 * mid p) s.toks) { s with toks := s.toks + 1 }) : wpAny (model prog w) A (binaryOp .Pow (.int 2 t) (.int p u)) Q E s :=
  pow_int_small (by omega) (by omega) (by decide) (by rw [pow_mid hp]; exact h)
theorem nt_pow1 (hp : 2 ≤ p ∧ p ≤ 8) (h : Q (.int (mid p) s.toks) { s with toks := s.toks + 1 }) : wpAny (model prog w) A (binaryOp .Pow (.int 2 t) (.int (p - 1) u)) Q E s :=
  pow_int_small (by omega) (by omega) (by decide) h
end
theorem mid_gt {p : Int} (h : 2 ≤ p ∧ p ≤ 8) : 2 * mid p - 1 ≤ 255 := by have := mid_le h; omega
theorem ycc_of {p r g b y cb cr : Int} (hp : 2 ≤ p ∧ p ≤ 8) (hr : 0 ≤ r ∧ r ≤ 2 * mid p - 1) (hg : 0 ≤ g ∧ g ≤ 2 * mid p - 1) (hb : 0 ≤ b ∧ b ≤ 2 * mid p - 1) (ey : y = fY r g b) (eb : cb = fCb (mid p) r g b) (er : cr = fCr (mid p) r g b) : YccOk (mid p) r g b y cb cr := by
  subst ey eb er; exact ycc_ok (mid_le hp) hr hg hb
theorem back_of {p r g b y cb cr r' g' b' : Int} (hp : 2 ≤ p ∧ p ≤ 8) (hr : 0 ≤ r ∧ r ≤ 2 * mid p - 1) (hg : 0 ≤ g ∧ g ≤ 2 * mid p - 1) (hb : 0 ≤ b ∧ b ≤ 2 * mid p - 1) (ey : y = fY r g b) (eb : cb = fCb (mid p) r g b) (er : cr = fCr (mid p) r g b)
    (e1 : r' = fR (mid p) y cb cr) (e2 : g' = fG (mid p) y cb cr) (e3 : b' = fB (mid p) y cb cr) : BackOk r g b r' g' b' := by
  rw [e1, e2, e3]; exact back_ok (mid_le hp) hr hg hb ey eb er
structure Grey (M r g b y cb cr : Int) : Prop where
  h : r = g → g = b → y = r ∧ cb = M ∧ cr = M
structure Grey2 (r g b r' g' b' : Int) : Prop where
  h : r = g → g = b → r' = r ∧ g' = g ∧ b' = b
theorem Grey.of {M r g b y cb cr : Int} (x : YccOk M r g b y cb cr) : Grey M r g b y cb cr := ⟨x.grey⟩
theorem Grey2.of {r g b r' g' b' : Int} (x : BackOk r g b r' g' b') : Grey2 r g b r' g' b' := ⟨x.grey⟩
structure YccIs (p r g b y cb cr : Int) : Prop where
  hp : 2 ≤ p ∧ p ≤ 8
  hr : 0 ≤ r ∧ r ≤ 2 * mid p - 1
  hg : 0 ≤ g ∧ g ≤ 2 * mid p - 1
  hb : 0 ≤ b ∧ b ≤ 2 * mid p - 1
  ey : y = fY r g b
  eb : cb = fCb (mid p) r g b
  er : cr = fCr (mid p) r g b
theorem YccIs.back {p r g b y cb cr r' g' b' : Int} (x : YccIs p r g b y cb cr) (e1 : r' = fR (mid p) y cb cr) (e2 : g' = fG (mid p) y cb cr) (e3 : b' = fB (mid p) y cb cr) : BackOk r g b r' g' b' :=
  back_of x.hp x.hr x.hg x.hb x.ey x.eb x.er e1 e2 e3
theorem YccIs.ok {p r g b y cb cr : Int} (x : YccIs p r g b y cb cr) : YccOk (mid p) r g b y cb cr := ycc_of x.hp x.hr x.hg x.hb x.ey x.eb x.er
end
-- NtZip
section
open PySem PySem.W PySem.Spec PySem.Calls PyProof.Rows PySem.SeqAt
section
variable {prog : Program} {w : World} {A : Around} {E : Value → Shared → Prop} {s : Shared}
/-- one draw from a tuple's iterator, through the machine's own nextOf -/
theorem zt_draw {it t : Addr} {i : Nat} {items : Array Value} {x : Value} {Q : Value → Shared → Prop} (hit : s.heap.IsTupleIter it t i) (ht : s.heap.IsTuple t items) (hx : items[i]? = some x)
    (hQ : ∀ h', h'.IsTupleIter it t (i + 1) → Heap.SameBut it s.heap h' → Q x { s with heap := h' }) : wpAny (model prog w) A (Builtin.SmallTypes.nextOf (.ref it)) Q E s := by
  obtain ⟨o, ho, hc, hd⟩ := id hit
  obtain ⟨ol, hol, _, nl, hdl⟩ := ht
  unfold Builtin.SmallTypes.nextOf
  refine wpAny_bind (wpAny_callSpecial?_slot (name := Str.ofString "__next__") hit.typeIs F.slot_tuple_iterator_next
    (wpAny_call_entry F.slot_tuple_iterator_next hit.typeIs F.entry_tuple_iterator_next ?_ (F.args_tuple_iterator_next_1 _)))
  show wpAny _ _ (field (.ref it) 0 >>= _) _ _ s
  refine wpAny_bind (wpAny_field ho hd (x := .ref t) rfl ?_)
  show wpAny _ _ (if (Value.ref t == Value.none) = true then _ else _) _ _ s
  rw [if_neg (show ¬ ((Value.ref t == Value.none) = true) from Bool.false_ne_true)]
  show wpAny _ _ (field (.ref it) 1 >>= _) _ _ s
  refine wpAny_bind (wpAny_field ho hd (x := .int i 0) rfl ?_)
  show wpAny _ _ (seqItems? (.ref t) >>= _) _ _ s
  refine wpAny_bind (wpAny_seqItems hol hdl ?_)
  simp only [Int.toNat_natCast, hx]
  refine wpAny_bind (wpAny_setField ho hd (by simp) (wpAny_pure ⟨x, rfl, wpAny_pure (hQ _ ?_ (Heap.SameBut.update ..))⟩))
  exact ⟨_, Heap.get?_update_self _ ho (Obj.isFreed_of_fields (Obj.data_mapFields hd _)), (Obj.cls_mapFields ..).trans hc, by
    rw [Obj.data_mapFields hd]; simp [rawInt]⟩
/-- and the end of it -/
theorem zt_drawEnd {it t : Addr} {i : Nat} {items : Array Value} {Q : Value → Shared → Prop} (hh : A.handled = none) (hit : s.heap.IsTupleIter it t i) (ht : s.heap.IsTuple t items) (hx : items[i]? = none)
    (hE : ∀ h' e, Heap.ExtBut it s.heap h' → (∃ o, h'.get? e = some o ∧ o.cls = .type "StopIteration") → E (.ref e) { s with heap := h' }) : wpAny (model prog w) A (Builtin.SmallTypes.nextOf (.ref it)) Q E s := by
  obtain ⟨o, ho, hc, hd⟩ := id hit
  obtain ⟨ol, hol, _, nl, hdl⟩ := ht
  unfold Builtin.SmallTypes.nextOf
  refine wpAny_bind (wpAny_callSpecial?_slot (name := Str.ofString "__next__") hit.typeIs F.slot_tuple_iterator_next
    (wpAny_call_entry F.slot_tuple_iterator_next hit.typeIs F.entry_tuple_iterator_next ?_ (F.args_tuple_iterator_next_1 _)))
  show wpAny _ _ (field (.ref it) 0 >>= _) _ _ s
  refine wpAny_bind (wpAny_field ho hd (x := .ref t) rfl ?_)
  show wpAny _ _ (if (Value.ref t == Value.none) = true then _ else _) _ _ s
  rw [if_neg (show ¬ ((Value.ref t == Value.none) = true) from Bool.false_ne_true)]
  show wpAny _ _ (field (.ref it) 1 >>= _) _ _ s
  refine wpAny_bind (wpAny_field ho hd (x := .int i 0) rfl ?_)
  show wpAny _ _ (seqItems? (.ref t) >>= _) _ _ s
  refine wpAny_bind (wpAny_seqItems hol hdl ?_)
  simp only [Int.toNat_natCast, hx]
  refine wpAny_bind (wpAny_rule (wpAny_bind (wpAny_setField ho hd (by simp) ?_)))
  show wpAny _ _ (newExc (.type "StopIteration") [] >>= _) _ _ _
  refine wpAny_bind ?_
  simp only [newExc, newTuple]
  refine wpAny_bind (wpAny_newObj_type ?_ (by size_fits))
  refine wpAny_bind (m := firstArgMember _ _) (wpAny_of_eq (a := Value.none) (by first | rfl | (simp only [firstArgMember]; rfl)) ?_)
  refine wpAny_newObj_type ?_ (by size_fits)
  simp only [raiseNew]
  refine wpAny_bind (wpAny_handled ?_)
  first | rw [show A.in1.handled = none from hh] | rw [hh]
  refine wpAny_bind (wpAny_pure (wpAny_throw ?_))
  exact hE _ _ (((Heap.SameBut.update ..).extBut.push _).push _) ⟨_, Heap.get?_push_size _ rfl, rfl⟩

/-- the five parts of a zip stand apart -/
structure ZApart (z TI TO i1 i2 : Addr) : Prop where
  a1 : TI ≠ z
  a2 : TO ≠ z
  a3 : i1 ≠ z
  a4 : i2 ≠ z
  a5 : TI ≠ TO
  a6 : TI ≠ i1
  a7 : TI ≠ i2
  a8 : TO ≠ i1
  a9 : TO ≠ i2
  a0 : i1 ≠ i2
/-- one iterator under a zip: its state at each turn, what a draw gives, what it stands -/
structure ZSide (prog : Program) (w : World) (i l : Addr) (xs : Array Value) (S : Nat → Heap → Prop) : Prop where
  at' : ∀ k h h', (∀ o, h.get? i = some o → h'.get? i = some o) → (∀ o, h.get? l = some o → h'.get? l = some o) → S k h → S k h'
  here : ∀ k h, S k h → ∃ o, h.get? i = some o
  draw : ∀ (A : Around) (E : Value → Shared → Prop) (k : Nat) (s : Shared) (x : Value) (Q : Value → Shared → Prop), S k s.heap → xs[k]? = some x → (∀ h', S (k + 1) h' → Heap.SameBut i s.heap h' → Q x { s with heap := h' }) → wpAny (model prog w) A (Builtin.SmallTypes.nextOf (.ref i)) Q E s
  last : ∀ (A : Around) (E : Value → Shared → Prop) (k : Nat) (s : Shared) (Q : Value → Shared → Prop), A.handled = none → S k s.heap → xs[k]? = none → (∀ h' e, Heap.ExtBut i s.heap h' → (∃ o, h'.get? e = some o ∧ o.cls = .type "StopIteration") → E (.ref e) { s with heap := h' }) → wpAny (model prog w) A (Builtin.SmallTypes.nextOf (.ref i)) Q E s
theorem ZSide.but {i l : Addr} {xs : Array Value} {S : Nat → Heap → Prop} (Z : ZSide prog w i l xs S) {k : Nat} {b : Addr} {h h' : Heap} (x : S k h) (e : Heap.ExtBut b h h') (n1 : i ≠ b) (n2 : l ≠ b) : S k h' :=
  Z.at' k h h' (fun o => e i o n1) (fun o => e l o n2) x
theorem zs_tuple {i l : Addr} {xs : Array Value} (hne : l ≠ i) : ZSide prog w i l xs (fun k h => h.IsTupleIter i l k ∧ h.IsTuple l xs) where
  at' := fun k h h' e1 e2 x => ⟨x.1.at e1, x.2.at e2⟩
  here := fun k h x => by obtain ⟨⟨o, e, _⟩, _⟩ := x; exact ⟨o, e⟩
  draw := fun A E k s x Q st hx hQ => zt_draw st.1 st.2 hx fun h' a b => hQ h' ⟨a, st.2.extBut b.extBut hne⟩ b
  last := fun A E k s Q hh st hx hE => zt_drawEnd hh st.1 st.2 hx hE
theorem zs_list {i l : Addr} {xs : Array Value} (hne : l ≠ i) : ZSide prog w i l xs (fun k h => h.IsListIter i l k ∧ h.IsList l xs) where
  at' := fun k h h' e1 e2 x => ⟨x.1.at e1, x.2.at e2⟩
  here := fun k h x => by obtain ⟨⟨o, e, _⟩, _⟩ := x; exact ⟨o, e⟩
  draw := fun A E k s x Q st hx hQ => wpAny_nextOf_list_item st.1 st.2 hx fun h' a b => hQ h' ⟨a, st.2.extBut b.extBut hne⟩ b
  last := fun A E k s Q hh st hx hE => wpAny_nextOf_list_end hh st.1 st.2 hx hE
theorem zd_item {z TI TO i1 i2 l1 l2 : Addr} {k : Nat} {xs ys : Array Value} {S T : Nat → Heap → Prop} {x y a b : Value} {Q : Value → Shared → Prop} (Z1 : ZSide prog w i1 l1 xs S) (Z2 : ZSide prog w i2 l2 ys T) (D : ZApart z TI TO i1 i2)
    (n1 : l1 ≠ z ∧ l1 ≠ TO ∧ l1 ≠ i1 ∧ l1 ≠ i2) (n2 : l2 ≠ z ∧ l2 ≠ TO ∧ l2 ≠ i1 ∧ l2 ≠ i2) (hz : IsZip s.heap z TI TO .none) (hTI : IsPair s.heap TI (.ref i1) (.ref i2)) (hTO : IsPair s.heap TO a b) (h1 : S k s.heap) (h2 : T k s.heap) (hx : xs[k]? = some x) (hy : ys[k]? = some y)
    (hQ : ∀ h', IsZip h' z TI TO (rawInt s.heap.objs.size) → IsPair h' TO x y → S (k + 1) h' → T (k + 1) h' → IsPair h' s.heap.objs.size x y → (∀ c o, c ≠ z → c ≠ TO → c ≠ i1 → c ≠ i2 → s.heap.get? c = some o → h'.get? c = some o) → Q (.ref s.heap.objs.size) { s with heap := h' }) :
    wpAny (model prog w) A (Builtin.«zip.__next__» ⟨[.ref z], []⟩) (fun fin s' => ∃ v, fin = .done (.ret v) ∧ Q v s') E s := by
  show wpAny _ _ (field (.ref z) 2 >>= _) _ _ _
  refine wpAny_bind (wpAny_field hz rfl (x := .bool false) rfl ?_)
  show wpAny _ _ (field (.ref z) 3 >>= _) _ _ _
  refine wpAny_bind (wpAny_field hz rfl (x := .ref TI) rfl ?_)
  refine wpAny_bind (wpAny_seqItems hTI rfl ?_)
  show wpAny _ _ (Builtin.SmallTypes.ownedTupleIsFree (.ref z) >>= _) _ _ _
  refine wpAny_bind ?_
  unfold Builtin.SmallTypes.ownedTupleIsFree
  refine wpAny_bind (wpAny_field hz rfl (x := .none) rfl (wpAny_pure ?_))
  simp only [if_true]
  refine wpAny_bind (wpAny_rule ?_)
  refine wpAny_bind (wpAny_field hz rfl (x := .ref TO) rfl ?_)
  refine wpAny_bind (wpAny_setField_rec hz (by simp) fun g1 gz e1 => ?_)
  replace gz : IsZip g1 z TI TO .ellipsis := gz
  refine wpAny_bind ?_
  simp only [List.zipIdx_cons, List.zipIdx_nil, List.forIn_cons, List.forIn_nil]
  refine wpAny_bind (wpAny_bind (wpAny_onRaise ?_))
  show wpAny _ _ (Builtin.SmallTypes.nextOf (.ref i1) >>= _) _ _ _
  refine wpAny_bind (Z1.draw _ _ k _ x _ (Z1.but h1 e1.extBut D.a3 n1.1) hx fun g2 s2 e2 => wpAny_pure ?_)
  have o2 : IsPair g2 TO a b := e2.extBut _ _ D.a8 (e1.extBut _ _ D.a2 hTO)
  refine wpAny_bind (wpAny_seqItems o2 rfl ?_)
  refine wpAny_bind (wpAny_updateSeq_pair o2 fun g3 o3 e3 => ?_)
  replace o3 : IsPair g3 TO x b := o3
  refine wpAny_bind (wpAny_letGo (wpAny_pure ?_))
  refine wpAny_bind (wpAny_bind (wpAny_onRaise ?_))
  show wpAny _ _ (Builtin.SmallTypes.nextOf (.ref i2) >>= _) _ _ _
  refine wpAny_bind (Z2.draw _ _ k _ y _ (Z2.but (Z2.but (Z2.but h2 e1.extBut D.a4 n2.1) e2.extBut D.a0.symm n2.2.2.1) e3.extBut D.a9.symm n2.2.1) hy fun g4 s4 e4 => wpAny_pure ?_)
  have o4 : IsPair g4 TO x b := e4.extBut _ _ D.a9 o3
  refine wpAny_bind (wpAny_seqItems o4 rfl ?_)
  refine wpAny_bind (wpAny_updateSeq_pair o4 fun g5 o5 e5 => ?_)
  replace o5 : IsPair g5 TO x y := o5
  refine wpAny_bind (wpAny_letGo (wpAny_pure (wpAny_pure ?_)))
  refine wpAny_bind (wpAny_seqItems o5 rfl ?_)
  refine wpAny_bind (wpAny_newTuple ?_)
  have hsz : g5.objs.size = s.heap.objs.size := by rw [e5.1, e4.1, e3.1, e2.1, e1.1]
  have z5 : IsZip g5 z TI TO .ellipsis := e5.extBut _ _ D.a2.symm (e4.extBut _ _ D.a4.symm (e3.extBut _ _ D.a2.symm (e2.extBut _ _ D.a3.symm gz)))
  have k5 : ∀ c o, c ≠ z → c ≠ TO → c ≠ i1 → c ≠ i2 → s.heap.get? c = some o → g5.get? c = some o := fun c o c1 c2 c3 c4 e =>
    e5.extBut _ _ c2 (e4.extBut _ _ c4 (e3.extBut _ _ c2 (e2.extBut _ _ c3 (e1.extBut _ _ c1 e))))
  have s5 : S (k + 1) g5 := Z1.but (Z1.but (Z1.but s2 e3.extBut D.a8.symm n1.2.1) e4.extBut D.a0 n1.2.2.2) e5.extBut D.a8.symm n1.2.1
  have t5 : T (k + 1) g5 := Z2.but s4 e5.extBut D.a9.symm n2.2.1
  have hzlt : z < g5.objs.size := Heap.lt_size z5
  show wpAny _ _ (Builtin.SmallTypes.ownedTupleHandOut (.ref z) (.ref g5.objs.size) >>= _) _ _ _
  refine wpAny_bind ?_
  unfold Builtin.SmallTypes.ownedTupleHandOut
  have z6 : IsZip (g5.push { cls := .type "tuple", data := .seq #[x, y] }) z TI TO .ellipsis := Heap.get?_push_of_some _ z5
  refine wpAny_bind (wpAny_setField_rec z6 (by simp) fun g7 z7 e7 => ?_)
  replace z7 : IsZip g7 z TI TO (rawInt g5.objs.size) := z7
  refine wpAny_setField_rec z7 (by simp) fun g8 z8 e8 => ?_
  replace z8 : IsZip g8 z TI TO (rawInt g5.objs.size) := z8
  have up : ∀ c o, c ≠ z → g5.get? c = some o → g8.get? c = some o := fun c o c1 e => e8.extBut _ _ c1 (e7.extBut _ _ c1 (Heap.get?_push_of_some _ e))
  have p8 : IsPair g8 g5.objs.size x y := e8.extBut _ _ (Nat.ne_of_gt hzlt) (e7.extBut _ _ (Nat.ne_of_gt hzlt) (Heap.get?_push_size _ rfl))
  rw [hsz] at z8 p8
  refine wpAny_pure ⟨_, rfl, ?_⟩
  show Q (.ref g5.objs.size) _
  rw [hsz]
  exact hQ g8 z8 (up _ _ D.a2 o5) (Z1.at' _ _ _ (fun o => up _ o D.a3) (fun o => up _ o n1.1) s5) (Z2.at' _ _ _ (fun o => up _ o D.a4) (fun o => up _ o n2.1) t5) p8 fun c o c1 c2 c3 c4 e => up c o c1 (k5 c o c1 c2 c3 c4 e)
theorem zd_end {z TI TO i1 i2 l1 l2 : Addr} {k : Nat} {xs ys : Array Value} {S T : Nat → Heap → Prop} {a b : Value} {Q : Fin → Shared → Prop} (Z1 : ZSide prog w i1 l1 xs S) (Z2 : ZSide prog w i2 l2 ys T) (D : ZApart z TI TO i1 i2) (hh : A.handled = none)
    (n1 : l1 ≠ z ∧ l1 ≠ TO ∧ l1 ≠ i1 ∧ l1 ≠ i2) (n2 : l2 ≠ z ∧ l2 ≠ TO ∧ l2 ≠ i1 ∧ l2 ≠ i2) (hz : IsZip s.heap z TI TO .none) (hTI : IsPair s.heap TI (.ref i1) (.ref i2)) (hTO : IsPair s.heap TO a b) (h1 : S k s.heap) (h2 : T k s.heap) (hend : xs[k]? = none ∨ ys[k]? = none)
    (hE : ∀ h' e, (∀ c o, c ≠ z → c ≠ TO → c ≠ i1 → c ≠ i2 → s.heap.get? c = some o → h'.get? c = some o) → (∃ o, h'.get? e = some o ∧ o.cls = .type "StopIteration") → E (.ref e) { s with heap := h' }) :
    wpAny (model prog w) A (Builtin.«zip.__next__» ⟨[.ref z], []⟩) Q E s := by
  show wpAny _ _ (field (.ref z) 2 >>= _) _ _ _
  refine wpAny_bind (wpAny_field hz rfl (x := .bool false) rfl ?_)
  show wpAny _ _ (field (.ref z) 3 >>= _) _ _ _
  refine wpAny_bind (wpAny_field hz rfl (x := .ref TI) rfl ?_)
  refine wpAny_bind (wpAny_seqItems hTI rfl ?_)
  show wpAny _ _ (Builtin.SmallTypes.ownedTupleIsFree (.ref z) >>= _) _ _ _
  refine wpAny_bind ?_
  unfold Builtin.SmallTypes.ownedTupleIsFree
  refine wpAny_bind (wpAny_field hz rfl (x := .none) rfl (wpAny_pure ?_))
  simp only [if_true]
  refine wpAny_bind (wpAny_rule ?_)
  refine wpAny_bind (wpAny_field hz rfl (x := .ref TO) rfl ?_)
  refine wpAny_bind (wpAny_setField_rec hz (by simp) fun g1 gz e1 => ?_)
  replace gz : IsZip g1 z TI TO .ellipsis := gz
  refine wpAny_bind ?_
  simp only [List.zipIdx_cons, List.zipIdx_nil, List.forIn_cons, List.forIn_nil]
  refine wpAny_bind (wpAny_bind (wpAny_onRaise ?_))
  show wpAny _ _ (Builtin.SmallTypes.nextOf (.ref i1) >>= _) _ _ _
  cases hx : xs[k]? with
  | none =>
    refine wpAny_bind (Z1.last _ _ k _ _ hh (Z1.but h1 e1.extBut D.a3 n1.1) hx fun g2 e s2 he => ?_)
    obtain ⟨oe, hoe, hce⟩ := he
    have z2 : IsZip g2 z TI TO .ellipsis := s2 _ _ D.a3.symm gz
    have hez : e ≠ z := fun q => by subst q; rw [z2] at hoe; cases hoe; simp at hce
    exact wpAny_setField_rec z2 (by simp) fun g3 _ e3 => hE g3 e (fun c o c1 _ c3 _ q => e3.extBut _ _ c1 (s2 _ _ c3 (e1.extBut _ _ c1 q))) ⟨oe, e3.extBut _ _ hez hoe, hce⟩
  | some x =>
    have hy : ys[k]? = none := by rcases hend with h | h; rw [hx] at h; cases h; exact h
    refine wpAny_bind (Z1.draw _ _ k _ x _ (Z1.but h1 e1.extBut D.a3 n1.1) hx fun g2 s2 e2 => wpAny_pure ?_)
    have o2 : IsPair g2 TO a b := e2.extBut _ _ D.a8 (e1.extBut _ _ D.a2 hTO)
    refine wpAny_bind (wpAny_seqItems o2 rfl ?_)
    refine wpAny_bind (wpAny_updateSeq_pair o2 fun g3 o3 e3 => ?_)
    refine wpAny_bind (wpAny_letGo (wpAny_pure ?_))
    refine wpAny_bind (wpAny_bind (wpAny_onRaise ?_))
    show wpAny _ _ (Builtin.SmallTypes.nextOf (.ref i2) >>= _) _ _ _
    refine wpAny_bind (Z2.last _ _ k _ _ hh (Z2.but (Z2.but (Z2.but h2 e1.extBut D.a4 n2.1) e2.extBut D.a0.symm n2.2.2.1) e3.extBut D.a9.symm n2.2.1) hy fun g4 e s4 he => ?_)
    obtain ⟨oe, hoe, hce⟩ := he
    have z4 : IsZip g4 z TI TO .ellipsis := s4 _ _ D.a4.symm (e3.extBut _ _ D.a2.symm (e2.extBut _ _ D.a3.symm gz))
    have hez : e ≠ z := fun q => by subst q; rw [z4] at hoe; cases hoe; simp at hce
    exact wpAny_setField_rec z4 (by simp) fun g5 _ e5 => hE g5 e (fun c o c1 c2 c3 c4 q => e5.extBut _ _ c1 (s4 _ _ c4 (e3.extBut _ _ c2 (e2.extBut _ _ c3 (e1.extBut _ _ c1 q))))) ⟨oe, e5.extBut _ _ hez hoe, hce⟩

theorem zd_walks {z TI TO i1 i2 l1 l2 : Addr} {xs ys : Array Value} {S T : Nat → Heap → Prop} (Z1 : ZSide prog w i1 l1 xs S) (Z2 : ZSide prog w i2 l2 ys T) (D : ZApart z TI TO i1 i2) (hh : A.handled = none)
    (n1 : l1 ≠ z ∧ l1 ≠ TO ∧ l1 ≠ i1 ∧ l1 ≠ i2) (n2 : l2 ≠ z ∧ l2 ≠ TO ∧ l2 ≠ i1 ∧ l2 ≠ i2) :
    WalksU prog w A z [z, TI, TO, i1, i2, l1, l2] [z, TO, i1, i2] (min xs.size ys.size) (fun i vals => ∃ x y, xs[i]? = some x ∧ ys[i]? = some y ∧ vals = #[x, y])
      (fun i h => IsZip h z TI TO .none ∧ IsPair h TI (.ref i1) (.ref i2) ∧ (∃ a b, IsPair h TO a b) ∧ S i h ∧ T i h)
      (fun i U h => IsZip h z TI TO (rawInt U) ∧ IsPair h TI (.ref i1) (.ref i2) ∧ (∃ a b, IsPair h TO a b) ∧ S (i + 1) h ∧ T (i + 1) h ∧ U ≠ z ∧ U ≠ TO ∧ U ≠ i1 ∧ U ≠ i2) where
  sub := fun c hc => by simp at hc ⊢; rcases hc with rfl | rfl | rfl | rfl <;> simp
  frame := fun i h h' st hk => by
    obtain ⟨hz, hTI, ⟨a, b, hTO⟩, h1, h2⟩ := st
    exact ⟨hk z (by simp) _ hz, hk TI (by simp) _ hTI, ⟨a, b, hk TO (by simp) _ hTO⟩, Z1.at' _ _ _ (hk i1 (by simp)) (hk l1 (by simp)) h1, Z2.at' _ _ _ (hk i2 (by simp)) (hk l2 (by simp)) h2⟩
  item := fun i s Q E hi st hQ => by
    obtain ⟨hz, hTI, ⟨a, b, hTO⟩, h1, h2⟩ := st
    have hix : i < xs.size := Nat.lt_of_lt_of_le hi (Nat.min_le_left ..)
    have hiy : i < ys.size := Nat.lt_of_lt_of_le hi (Nat.min_le_right ..)
    have hT : s.TypeIs (.ref z) "zip" := ⟨_, hz, rfl⟩
    unfold pyNext
    refine wpAny_bind (wpAny_attempt (wpAny_callSpecial?_slot (name := Str.ofString "__next__") hT F.slot_zip_next (wpAny_call_entry F.slot_zip_next hT F.entry_zip_next ?_ (F.args_zip_next_1 _))))
    refine zd_item Z1 Z2 D n1 n2 hz hTI hTO h1 h2 (Array.getElem?_eq_getElem hix) (Array.getElem?_eq_getElem hiy) fun h' a1 a2 a3 a4 a5 hk => wpAny_pure ?_
    have lt : ∀ {c o}, s.heap.get? c = some o → s.heap.objs.size ≠ c := fun e => Nat.ne_of_gt (Heap.lt_size e)
    obtain ⟨o1, e1⟩ := Z1.here _ _ h1
    obtain ⟨o2, e2⟩ := Z2.here _ _ h2
    exact hQ s.heap.objs.size #[xs[i], ys[i]] h' s.toks ⟨_, _, Array.getElem?_eq_getElem hix, Array.getElem?_eq_getElem hiy, rfl⟩ ⟨_, a5, rfl, _, rfl⟩
      ⟨a1, hk _ _ D.a1 D.a5 D.a6 D.a7 hTI, ⟨_, _, a2⟩, a3, a4, lt hz, lt hTO, lt e1, lt e2⟩
      fun c o hc e => hk c o (fun x => hc (by simp [x])) (fun x => hc (by simp [x])) (fun x => hc (by simp [x])) (fun x => hc (by simp [x])) e
  go := fun elts k pos i U s Q E hm hQ => by
    obtain ⟨hz, hTI, ⟨a, b, hTO⟩, h1, h2, _⟩ := hm
    exact wpAny_letOwnedTupleGo_zip hz fun h' hz' hs' => hQ h' ⟨hz', hs'.extBut _ _ D.a1 hTI, ⟨a, b, hs'.extBut _ _ D.a2 hTO⟩, Z1.but h1 hs'.extBut D.a3 n1.1, Z2.but h2 hs'.extBut D.a4 n2.1⟩
      fun c o hc e => hs'.extBut _ _ (fun x => hc (by simp [x])) e
  apart := fun i U h hm hU => by
    obtain ⟨_, _, _, _, _, t1, t2, t3, t4⟩ := hm
    simp at hU
    rcases hU with rfl | rfl | rfl | rfl
    · exact t1 rfl
    · exact t2 rfl
    · exact t3 rfl
    · exact t4 rfl
  done := fun s Q E st hQ => by
    obtain ⟨hz, hTI, ⟨a, b, hTO⟩, h1, h2⟩ := st
    have hend : xs[min xs.size ys.size]? = none ∨ ys[min xs.size ys.size]? = none := by
      rcases Nat.le_total xs.size ys.size with h | h
      · exact .inl (by rw [Nat.min_eq_left h]; exact Array.getElem?_eq_none (Nat.le_refl _))
      · exact .inr (by rw [Nat.min_eq_right h]; exact Array.getElem?_eq_none (Nat.le_refl _))
    have hT : s.TypeIs (.ref z) "zip" := ⟨_, hz, rfl⟩
    unfold pyNext
    refine wpAny_bind (wpAny_attempt (wpAny_callSpecial?_slot (name := Str.ofString "__next__") hT F.slot_zip_next
      (wpAny_call_entry F.slot_zip_next hT F.entry_zip_next (zd_end Z1 Z2 D hh n1 n2 hz hTI hTO h1 h2 hend fun h' e hk he => ?_) (F.args_zip_next_1 _))))
    obtain ⟨o, ho, hc⟩ := he
    refine wpAny_bind (wpAny_isInstance (T := "StopIteration") (b := true) ⟨o, ho, hc⟩ isSubtype_stop ?_)
    exact wpAny_pure (hQ _ s.toks fun c o hc e => hk c o (fun x => hc (by simp [x])) (fun x => hc (by simp [x])) (fun x => hc (by simp [x])) (fun x => hc (by simp [x])) e)
  self := fun i s Q E st hQ => wpAny_pyIter_zip st.1 hQ

abbrev ztI1 (l1 : Addr) : Obj := { cls := .type "tuple_iterator", data := .fields #[.ref l1, .int 0 0] }
abbrev ztI2 (l2 : Addr) : Obj := { cls := .type "list_iterator", data := .fields #[.ref l2, .int 0 0] }
abbrev ztH (h : Heap) (l1 l2 : Addr) : Heap := (((((h.push (ztI1 l1)).push (ztI2 l2)).push { cls := .type "tuple", data := .seq #[.ref h.objs.size, .ref (h.push (ztI1 l1)).objs.size] }).push { cls := .type "tuple", data := .seq #[.none, .none] }).push
  { cls := .type "zip", data := .fields #[.none, .bool false, .bool false, .ref ((h.push (ztI1 l1)).push (ztI2 l2)).objs.size, .ref (((h.push (ztI1 l1)).push (ztI2 l2)).push { cls := .type "tuple", data := .seq #[.ref h.objs.size, .ref (h.push (ztI1 l1)).objs.size] }).objs.size] })
theorem zt_meets (l1 l2 : Addr) (xs ys : Array Value) : Meets (Builtin.«zip.__new__» ⟨[.type "zip", .ref l1, .ref l2], []⟩) (fun _ R s => s.heap.IsTuple l1 xs ∧ s.heap.IsList l2 ys ∧
      R (.ok (.ret (.ref (s.heap.objs.size + 4)))) { s with heap := ztH s.heap l1 l2 }) :=
  .of_wp fun prog w A R s h => by
    obtain ⟨hp, g, d, tk, os⟩ := s
    obtain ⟨hl1, hl2, h⟩ := h
    have hsub := sub_zip
    have hL1 : Heap.IsTuple (Shared.heap ⟨hp, g, d, tk, os⟩) l1 xs := hl1
    have hL2 : Heap.IsList (Shared.heap ⟨hp.push (ztI1 l1), g, d, tk, os⟩) l2 ys := Heap.IsList.push hl2 _
    wp_walk using wpAny_pyIter_tuple hL1, wpAny_pyIter_list hL2
    refine ⟨_, rfl, ?_⟩
    simp only [Heap.size_push]
    simp only [ztH, Heap.size_push] at h
    exact h
theorem call_zipTL {l1 l2 : Addr} {xs ys : Array Value} {Q : Value → Shared → Prop} (hl1 : s.heap.IsTuple l1 xs) (hl2 : s.heap.IsList l2 ys)
    (h : ∀ h', IsZip h' (s.heap.objs.size + 4) (s.heap.objs.size + 2) (s.heap.objs.size + 3) .none → IsPair h' (s.heap.objs.size + 2) (.ref s.heap.objs.size) (.ref (s.heap.objs.size + 1)) →
      IsPair h' (s.heap.objs.size + 3) .none .none → h'.IsTupleIter s.heap.objs.size l1 0 → h'.IsListIter (s.heap.objs.size + 1) l2 0 → h'.objs.size = s.heap.objs.size + 5 →
      (∀ c o, s.heap.get? c = some o → h'.get? c = some o) → Q (.ref (s.heap.objs.size + 4)) { s with heap := h' }) :
    wpAny (model prog w) A (call (.type "zip") [.ref l1, .ref l2]) Q E s := by
  refine callType_new F.called_zip (by decide) (F.typeCall_zip_2 _ _) (F.newCall_zip_2 _ _) (fun obj => F.args_object_init_3 obj _ _) F.entry_zip_new
    (zt_meets l1 l2 xs ys) ⟨hl1, hl2, ?_⟩
  have g1 : (ztH s.heap l1 l2).get? s.heap.objs.size = some (ztI1 l1) := Heap.get?_push_of_some _ (Heap.get?_push_of_some _ (Heap.get?_push_of_some _ (Heap.get?_push_of_some _ (Heap.get?_push_size _ rfl))))
  have g2 : (ztH s.heap l1 l2).get? (s.heap.push (ztI1 l1)).objs.size = some (ztI2 l2) := Heap.get?_push_of_some _ (Heap.get?_push_of_some _ (Heap.get?_push_of_some _ (Heap.get?_push_size _ rfl)))
  have g3 := (Heap.get?_push_of_some ({ cls := .type "zip", data := .fields #[.none, .bool false, .bool false, .ref ((s.heap.push (ztI1 l1)).push (ztI2 l2)).objs.size, .ref (((s.heap.push (ztI1 l1)).push (ztI2 l2)).push { cls := .type "tuple", data := .seq #[.ref s.heap.objs.size, .ref (s.heap.push (ztI1 l1)).objs.size] }).objs.size] }) (Heap.get?_push_of_some { cls := .type "tuple", data := .seq #[.none, .none] } (Heap.get?_push_size ((s.heap.push (ztI1 l1)).push (ztI2 l2)) (o := { cls := .type "tuple", data := .seq #[.ref s.heap.objs.size, .ref (s.heap.push (ztI1 l1)).objs.size] }) rfl)))
  have g4 := (Heap.get?_push_of_some ({ cls := .type "zip", data := .fields #[.none, .bool false, .bool false, .ref ((s.heap.push (ztI1 l1)).push (ztI2 l2)).objs.size, .ref (((s.heap.push (ztI1 l1)).push (ztI2 l2)).push { cls := .type "tuple", data := .seq #[.ref s.heap.objs.size, .ref (s.heap.push (ztI1 l1)).objs.size] }).objs.size] }) (Heap.get?_push_size (((s.heap.push (ztI1 l1)).push (ztI2 l2)).push { cls := .type "tuple", data := .seq #[.ref s.heap.objs.size, .ref (s.heap.push (ztI1 l1)).objs.size] }) (o := { cls := .type "tuple", data := .seq #[.none, .none] }) rfl))
  have g5 := (Heap.get?_push_size ((((s.heap.push (ztI1 l1)).push (ztI2 l2)).push { cls := .type "tuple", data := .seq #[.ref s.heap.objs.size, .ref (s.heap.push (ztI1 l1)).objs.size] }).push { cls := .type "tuple", data := .seq #[.none, .none] }) (o := { cls := .type "zip", data := .fields #[.none, .bool false, .bool false, .ref ((s.heap.push (ztI1 l1)).push (ztI2 l2)).objs.size, .ref (((s.heap.push (ztI1 l1)).push (ztI2 l2)).push { cls := .type "tuple", data := .seq #[.ref s.heap.objs.size, .ref (s.heap.push (ztI1 l1)).objs.size] }).objs.size] }) rfl)
  have hsz : (ztH s.heap l1 l2).objs.size = s.heap.objs.size + 5 := by simp only [ztH, Heap.size_push]
  have hk : ∀ c o, s.heap.get? c = some o → (ztH s.heap l1 l2).get? c = some o := fun c o x => Heap.get?_push_of_some _ (Heap.get?_push_of_some _ (Heap.get?_push_of_some _ (Heap.get?_push_of_some _ (Heap.get?_push_of_some _ x))))
  show _ ∧ _
  unfold ztH at g1 g2 hsz hk ⊢
  simp only [Heap.size_push] at g1 g2 g3 g4 g5 hk ⊢
  exact ⟨⟨_, g5, rfl⟩, h _ g5 g3 g4 ⟨_, g1, rfl, rfl⟩ ⟨_, g2, rfl, rfl⟩ (by simp only [Heap.size_push]) hk⟩
end
end
-- NtNone
section
open PySem PySem.W PySem.Spec PySem.Calls PyProof.Rows PySem.SeqAt PyProof.Rows.LCg
section
variable {prog : Program} {w : World} {A : Around} {E : Value → Shared → Prop} {s : Shared} {h₀ : Heap} {L : Addr} {m : Str → Option Value}
/-- the end of a test that says no -/
def NoEnd (h₀ : Heap) (L : Addr) (m : Str → Option Value) (s₂ : Shared) (all : Led) (ok : Bool) (s' : Shared) : Prop := ok = false ∧ ∃ h' tk', s' = { s₂ with heap := h', toks := tk' } ∧ Fr h₀ L h' m ∧ News h₀ L h' all
theorem NoEnd.intro {h₀ : Heap} {L : Addr} {m : Str → Option Value} {s₂ : Shared} {all : Led} {h' : Heap} {tk' : Nat} (F : Fr h₀ L h' m) (N : News h₀ L h' all) : NoEnd h₀ L m s₂ all false { s₂ with heap := h', toks := tk' } := ⟨rfl, _, _, rfl, F, N⟩
/-- what a turn is asked: its test says no, and leaves what it finds -/
def NoTurn (prog : Program) (w : World) (A : Around) (h₀ : Heap) (L : Addr) (m : Str → Option Value) (c : PySem.Expr) (a b : Str) (scope : Scope) (cl : List (Str × Addr)) (env : Env) (s₂ : Shared) (news : Led) (x y : Value) : Prop :=
  ∀ C oC m₂ h tk own (E' : Value → Shared → Prop), NsObj oC m₂ → m₂ a = some x → m₂ b = some y → Fr h₀ L h m → News h₀ L h ((C, oC) :: (own ++ news)) →
    wpAny (model prog w) A (isTrue c (compEnvC scope cl C env) (eval c (compEnvC scope cl C env))) (fun ok s' => NoEnd h₀ L m s₂ ((C, oC) :: (own ++ news)) ok s') E' { s₂ with heap := h, toks := tk }
theorem nt_block {env : Env} {elt iter c : PySem.Expr} {a b : Str} {pa pb tp : Pos} {kk : Nat} {scope : Scope} {cl : List (Str × Addr)} {pos : Pos} {s₂ : Shared} {I : Addr} {fp wr : List Addr} {n : Nat} {xs ys : Array Value} {Md : Nat → Value → Heap → Prop} {St : Nat → Heap → Prop} {news : Led}
    {RR : Value → Addr → Result → Shared → Prop} (hh : A.handled = none)
    (W : KTurns prog w A (.Tuple [.Name a pa, .Name b pb] kk tp) I fp wr n (fun i v h => ∃ T vals, v = .ref T ∧ (∃ x y, xs[i]? = some x ∧ ys[i]? = some y ∧ vals = #[x, y]) ∧ h.IsTuple T vals) Md St)
    (hself : ∀ (s : Shared) (Q E : Value → Shared → Prop), St 0 s.heap → Q (.ref I) s → wpAny (model prog w) A (pyIter (.ref I)) Q E s)
    (hcell : ∀ y ∈ scope.names, y.2 ≠ .cell) (hkind : scope.kind = .function) (hxa : scope.names.lookup a = some .local) (hxb : scope.names.lookup b = some .local) (hab : ¬ a = b)
    (hst : St 0 s₂.heap) (hfp : ∀ b ∈ fp, b < s₂.heap.objs.size) (F : Fr h₀ L s₂.heap m) (N : News h₀ L s₂.heap news) (hLf : L ∉ fp) (hwr : ∀ b ∈ wr, h₀.get? b = none) (hnw : ∀ p ∈ news, p.1 ∉ wr)
    (turn : ∀ i x y, i < n → xs[i]? = some x → ys[i]? = some y → NoTurn prog w A h₀ L m c a b scope cl env s₂ news x y)
    (hRR : ∀ D C h tk m', Fr h₀ L h m → News h₀ L h ((D, lst []) :: news) → (∀ p ∈ news, p.1 < D) → h.Ns C m' → h₀.get? C = none → C ≠ L → C ≠ D → (∀ p ∈ news, p.1 ≠ C) → RR (.ref D) C (.ok .next) { s₂ with heap := h, toks := tk }) :
    wpAny (model prog w) A (newList []) (fun acc s₃ => wpAny (model prog w) A (newFunctionEnv scope env.globals cl [] env.qual none .none (some env)) (fun cenv s₄ =>
      codeAny (model prog w) A (.compStart (.ListComp elt [⟨.Tuple [.Name a pa, .Name b pb] kk tp, iter, [c], 0⟩] scope pos) 0 (.ref I) acc { cenv with scope := relabel scope env }) (RR acc cenv.locals) s₄) E s₃) E s₂ := by
  refine wpAny_newObj_type (wpAny_newFunctionEnv hcell (by intro y hy; simp at hy) (fun h₁ hns₁ hsb₁ => ?_) hkind)
  dsimp only at hns₁ hsb₁ ⊢
  generalize hH2 : s₂.heap.push { cls := .type "list", dict := none, data := .seq ([] : List Value).toArray } = H2 at hns₁ hsb₁ ⊢
  have hC : H2.objs.size = s₂.heap.objs.size + 1 := by rw [← hH2, Heap.size_push]
  have hDC : s₂.heap.objs.size ≠ H2.objs.size := by rw [hC]; exact Nat.ne_of_lt (Nat.lt_succ_self _)
  have below : ∀ b, b < s₂.heap.objs.size → b ≠ H2.objs.size ∧ b ≠ s₂.heap.objs.size := fun b hb => ⟨by rw [hC]; exact Nat.ne_of_lt (Nat.lt_succ_of_lt hb), Nat.ne_of_lt hb⟩
  have old : ∀ b o, s₂.heap.get? b = some o → h₁.get? b = some o := fun b o e => hsb₁.extBut b o (below b (Heap.lt_size e)).1 (Heap.get?_push_of_some _ (hH2 ▸ Heap.get?_push_of_some _ e))
  have hacc : h₁.get? s₂.heap.objs.size = some (lst []) := hsb₁.extBut _ _ hDC (Heap.get?_push_of_some _ (hH2 ▸ Heap.get?_push_size _ rfl))
  have fresh₀ : ∀ a, s₂.heap.objs.size ≤ a → h₀.get? a = none := fun a ha => ktu_new F ha
  have hD₀ : h₀.get? s₂.heap.objs.size = none := fresh₀ _ (Nat.le_refl _)
  have hC₀ : h₀.get? H2.objs.size = none := fresh₀ _ (by rw [hC]; exact Nat.le_succ _)
  have hLlt : L < s₂.heap.objs.size := F.ns.lt
  have hDL : s₂.heap.objs.size ≠ L := Ne.symm (below L hLlt).2
  have hCL : H2.objs.size ≠ L := Ne.symm (below L hLlt).1
  have hCf : H2.objs.size ∉ fp := fun q => (below _ (hfp _ q)).1 rfl
  have hDf : s₂.heap.objs.size ∉ fp := fun q => Nat.lt_irrefl _ (hfp _ q)
  have hCw : H2.objs.size ∉ wr := fun q => hCf (W.sub _ q)
  have hDw : s₂.heap.objs.size ∉ wr := fun q => hDf (W.sub _ q)
  have hLw : L ∉ wr := fun q => hLf (W.sub _ q)
  have hCn : ∀ p ∈ news, p.1 ≠ H2.objs.size := fun p hp => (below _ (Heap.lt_size (N p hp).1)).1
  have hDn : ∀ p ∈ news, p.1 < s₂.heap.objs.size := fun p hp => Heap.lt_size (N p hp).1
  have loop : ∀ s₃ : Shared, s₃ = { s₂ with heap := h₁, toks := s₂.toks + ([] : List (Str × Value)).length } →
      codeAny (model prog w) A (.compLoop (.ListComp elt [⟨.Tuple [.Name a pa, .Name b pb] kk tp, iter, [c], 0⟩] scope pos) 0 (.ref I) (.ref s₂.heap.objs.size) (compEnvC scope cl H2.objs.size env))
        (RR (.ref s₂.heap.objs.size) H2.objs.size) s₃ := by
    rintro s₃ rfl
    refine kct_loop (fun k s' => ∃ h' tk i m', s' = { s₂ with heap := h', toks := tk } ∧ i ≤ n ∧ k = n + 1 - i ∧ St i h' ∧ Fr h₀ L h' m ∧ h'.Ns H2.objs.size m' ∧ News h₀ L h' ((s₂.heap.objs.size, lst []) :: news)) ?_ (n + 1)
      ⟨h₁, _, 0, _, rfl, Nat.zero_le _, rfl, W.frame _ _ _ hst fun b _ o e => old b o e, F.keeps old, hns₁, fun p hp => ?_⟩
    · rintro k s' ⟨h', tk, i, m', rfl, hi, rfl, hst', F', hn', N'⟩
      have offw : ∀ p ∈ (s₂.heap.objs.size, lst []) :: news, p.1 ∉ wr := fun p hp => by
        rcases List.mem_cons.mp hp with rfl | hp
        · exact hDw
        · exact hnw p hp
      by_cases hlt : i < n
      · refine W.item i _ _ _ hlt hst' fun v h₂ tk₂ hMd hk₂ => ?_
        refine W.go i v _ _ _ hMd fun h₃ hP hst₃ hk₃ => ?_
        obtain ⟨T, vals, rfl, ⟨x, y, hx, hy, rfl⟩, hT⟩ := hP
        have up₃ : ∀ c o, c ∉ wr → h'.get? c = some o → h₃.get? c = some o := fun c o hc e => hk₃ c o hc (hk₂ c o hc e)
        refine kcp_assign (env := compEnvC scope cl H2.objs.size env) hh hT (lookup_relabel_local hxa) (lookup_relabel_local hxb) (by simp [compEnvC, relabel, hkind]) (hn'.at' fun o e => up₃ _ o hCw e) fun h₄ tk₄ hn₄ hs₄ => ?_
        have up : ∀ c o, c ∉ wr → c ≠ H2.objs.size → h'.get? c = some o → h₄.get? c = some o := fun c o h1 h2 e => hs₄ c o h2 (up₃ c o h1 e)
        have hst₄ : St (i + 1) h₄ := W.frame _ _ _ hst₃ fun b hb o e => hs₄ b o (fun q => hCf (by have q' : b = H2.objs.size := q; rw [← q']; exact hb)) e
        obtain ⟨oC, heC, hoC⟩ := ns_obj hn₄
        have F₄ : Fr h₀ L h₄ m := ⟨F'.ns.at' fun o e => up _ o hLw (Ne.symm hCL) e, fun c o e => up c o (fun q => by rw [hwr c q] at e; cases e) (fun q => by rw [q, hC₀] at e; cases e) (F'.keep c o e), F'.above⟩
        have N₄ : News h₀ L h₄ ((s₂.heap.objs.size, lst []) :: news) := fun p hp => ⟨up _ _ (offw p hp) (by
          rcases List.mem_cons.mp hp with rfl | hp
          · exact hDC
          · exact hCn p hp) (N' p hp).1, (N' p hp).2⟩
        have N₅ : News h₀ L h₄ ((H2.objs.size, oC) :: ((PyProof.Rows.ownOf h₀ fp h₄ ++ [(s₂.heap.objs.size, lst [])]) ++ news)) := fun p hp => by
          rcases List.mem_cons.mp hp with rfl | hp
          · exact ⟨heC, hCL, hC₀⟩
          · rcases List.mem_append.mp hp with hp | hp
            · rcases List.mem_append.mp hp with hp | hp
              · exact news_ownOf hLf p hp
              · rw [List.mem_singleton.mp hp]; exact N₄ _ List.mem_cons_self
            · exact N₄ _ (List.mem_cons_of_mem _ hp)
        refine wpAny_mono (turn i x y hlt hx hy H2.objs.size oC _ h₄ _ _ _ hoC (by simp [hab]) (by simp) F₄ N₅) (fun okb s₅ h₅ => ?_) fun _ _ e => e
        obtain ⟨rfl, h₅, tk₅, rfl, F₅, N₆⟩ := h₅
        simp only [Bool.false_eq_true, if_false]
        have zC := (N₆ (H2.objs.size, oC) List.mem_cons_self).1
        refine ⟨n + 1 - (i + 1), by omega, h₅, tk₅, i + 1, _, rfl, hlt, rfl, ?_, F₅, hoC.ns zC, fun q hq => ?_⟩
        · refine W.frame _ _ _ hst₄ fun b hb o e => ?_
          cases hn : h₀.get? b with
          | some o₀ =>
            have : o₀ = o := by have q := F₄.keep b o₀ hn; rw [e] at q; exact (Option.some.inj q).symm
            exact this ▸ F₅.keep b o₀ hn
          | none => exact (N₆ _ (List.mem_cons_of_mem _ (List.mem_append_left _ (List.mem_append_left _ (mem_ownOf hb hn e))))).1
        · rcases List.mem_cons.mp hq with rfl | hq
          · exact N₆ _ (List.mem_cons_of_mem _ (List.mem_append_left _ (List.mem_append_right _ (List.mem_singleton.mpr rfl))))
          · exact N₆ _ (List.mem_cons_of_mem _ (List.mem_append_right _ hq))
      · obtain rfl : i = n := Nat.le_antisymm hi (Nat.not_lt.mp hlt)
        refine W.done _ _ _ hst' fun h₂ tk₂ hk₂ => ?_
        exact hRR _ _ h₂ tk₂ _ ⟨F'.ns.at' fun o e => hk₂ _ o hLw e, fun c o e => hk₂ c o (fun q => by rw [hwr c q] at e; cases e) (F'.keep c o e), F'.above⟩ (fun p hp => ⟨hk₂ _ _ (offw p hp) (N' p hp).1, (N' p hp).2⟩) hDn (hn'.at' fun o e => hk₂ _ o hCw e) hC₀ hCL (Ne.symm hDC) hCn
    · rcases List.mem_cons.mp hp with rfl | hp
      · exact ⟨hacc, hDL, hD₀⟩
      · exact ⟨old _ _ (N p hp).1, (N p hp).2⟩
  exact codeAny_compStart_list (loop _ rfl) (hself _ _ _ (W.frame _ _ _ hst fun b _ o e => old b o e) (loop _ rfl))

/-- «[e for a, b in zip(tuple, list) if c]» where no turn's test says yes: an empty list -/
theorem nt_none {env : Env} {elt c : PySem.Expr} {a b : Str} {pa pb tp : Pos} {kk : Nat} {scope : Scope} {cl : List (Str × Addr)} {pos : Pos} {Q : Value → Shared → Prop} {l1 l2 : Addr} {xs ys : Array Value} {n1 n2 : Nat} {news : Led} {iter : PySem.Expr}
    (hh : A.handled = none) (F : Fr h₀ L s.heap m) (N : News h₀ L s.heap news) (hm1 : (l1, ({ cls := .type "tuple", data := .seq xs n1 } : Obj)) ∈ news) (hm2 : (l2, ({ cls := .type "list", data := .seq ys n2 } : Obj)) ∈ news)
    (hclos : closureFor scope env = pure cl) (hcell : ∀ y ∈ scope.names, y.2 ≠ .cell) (hkind : scope.kind = .function)
    (hnames : ∀ y ∈ scope.names, y.2 = .local → scope.names.lookup y.1 = some .local) (hxa : scope.names.lookup a = some .local) (hxb : scope.names.lookup b = some .local) (hab : ¬ a = b)
    (hiter : ∀ Q', wpAny (model prog w) A (call (.type "zip") [.ref l1, .ref l2]) Q' E s → wpAny (model prog w) A (eval iter env) Q' E s)
    (turn : ∀ (i : Nat) (x y : Value), xs[i]? = some x → ys[i]? = some y → ∀ h, NoTurn prog w A h₀ L m c a b scope cl env { s with heap := h } news x y)
    (h : ∀ D h tk, Fr h₀ L h m → News h₀ L h ((D, lst []) :: news) → AllLt D news → Q (.ref D) { s with heap := h, toks := tk })
    (hs : ∀ x, foldedSetIterable iter env x = pure x := by intro _; rfl) :
    wpAny (model prog w) A (eval (.ListComp elt [⟨.Tuple [.Name a pa, .Name b pb] kk tp, iter, [c], 0⟩] scope pos) env) Q E s := by
  rw [eval_ListComp]
  refine wpAny_comprehension_free (use := none) rfl hs hclos hkind hnames (hiter _ ?_)
  have ht : s.heap.IsTuple l1 xs := ⟨_, (N _ hm1).1, rfl, _, rfl⟩
  have hl : s.heap.IsList l2 ys := ⟨_, (N _ hm2).1, rfl, _, rfl⟩
  have q1 : l1 < s.heap.objs.size := Heap.lt_size (N _ hm1).1
  have q2 : l2 < s.heap.objs.size := Heap.lt_size (N _ hm2).1
  have qL : L < s.heap.objs.size := F.ns.lt
  refine call_zipTL ht hl fun h' hz hTI hTO hi1 hi2 hsz hk => ?_
  refine wpAny_pyIter_zip hz ?_
  have ne : ∀ x k : Nat, x < s.heap.objs.size → x ≠ s.heap.objs.size + k := fun x k h => by omega
  have D : ZApart (s.heap.objs.size + 4) (s.heap.objs.size + 2) (s.heap.objs.size + 3) s.heap.objs.size (s.heap.objs.size + 1) := by constructor <;> (refine neN ?_; omega)
  have W := zd_walks (prog := prog) (w := w) (A := A) (zs_tuple (xs := xs) (ne l1 0 q1)) (zs_list (xs := ys) (ne l2 1 q2)) D hh ⟨ne _ 4 q1, ne _ 3 q1, ne _ 0 q1, ne _ 1 q1⟩ ⟨ne _ 4 q2, ne _ 3 q2, ne _ 0 q2, ne _ 1 q2⟩
  refine nt_block (s₂ := { s with heap := h' }) (xs := xs) (ys := ys) (news := news) hh (KTurns.ofWalksU W) (fun s Q E st hq => W.self 0 s Q E st hq) hcell hkind hxa hxb hab
    ⟨hz, hTI, ⟨_, _, hTO⟩, ⟨hi1, ht.at fun o e => hk _ o e⟩, ⟨hi2, hl.at fun o e => hk _ o e⟩⟩ (fun b hb => ?_) (F.keeps hk) (N.grown hk) ?_ ?_ ?_ (fun i x y _ hx hy => turn i x y hx hy h') ?_
  · show b < h'.objs.size
    rw [hsz]
    have hb' : b = s.heap.objs.size + 4 ∨ b = s.heap.objs.size + 2 ∨ b = s.heap.objs.size + 3 ∨ b = s.heap.objs.size ∨ b = s.heap.objs.size + 1 ∨ b = l1 ∨ b = l2 := by simpa using hb
    have h5 : ∀ b s l1 l2 : Nat, l1 < s → l2 < s → (b = s + 4 ∨ b = s + 2 ∨ b = s + 3 ∨ b = s ∨ b = s + 1 ∨ b = l1 ∨ b = l2) → b < s + 5 := by intros; omega
    exact h5 _ _ _ _ q1 q2 hb'
  · intro hb
    have hb' : L = s.heap.objs.size + 4 ∨ L = s.heap.objs.size + 2 ∨ L = s.heap.objs.size + 3 ∨ L = s.heap.objs.size ∨ L = s.heap.objs.size + 1 ∨ L = l1 ∨ L = l2 := by simpa using hb
    rcases hb' with e | e | e | e | e | e | e
    · exact ne _ 4 qL e
    · exact ne _ 2 qL e
    · exact ne _ 3 qL e
    · exact ne _ 0 qL e
    · exact ne _ 1 qL e
    · exact (N _ hm1).2.1 e.symm
    · exact (N _ hm2).2.1 e.symm
  · intro b hb
    have hb' : b = s.heap.objs.size + 4 ∨ b = s.heap.objs.size + 3 ∨ b = s.heap.objs.size ∨ b = s.heap.objs.size + 1 := by simpa using hb
    have h5 : ∀ b s : Nat, (b = s + 4 ∨ b = s + 3 ∨ b = s ∨ b = s + 1) → s ≤ b := by intros; omega
    exact ktu_new F (h5 _ _ hb')
  · intro p hp hb
    have hlp := Heap.lt_size (N p hp).1
    have hb' : p.1 = s.heap.objs.size + 4 ∨ p.1 = s.heap.objs.size + 3 ∨ p.1 = s.heap.objs.size ∨ p.1 = s.heap.objs.size + 1 := by simpa using hb
    rcases hb' with e | e | e | e
    · exact ne _ 4 hlp e
    · exact ne _ 3 hlp e
    · exact ne _ 0 hlp e
    · exact ne _ 1 hlp e
  · intro D C g tk m' F' N' hD hn hC₀ hCL hCD offC
    refine ⟨m', hn, fun h'' hs'' => h D h'' tk (F'.change hs'' hCL hC₀) (fun p hp => ?_) (allLt_of hD)⟩
    refine ⟨hs''.extBut _ _ ?_ (N' p hp).1, (N' p hp).2⟩
    rcases List.mem_cons.mp hp with rfl | hp
    · exact Ne.symm hCD
    · exact offC p hp
end
end
-- NtCmp
section
open PySem PySem.W PySem.Spec PySem.Calls PyProof.Rows PySem.SeqAt PyProof.Rows.LCg
section
variable {prog : Program} {w : World} {A : Around} {E : Value → Shared → Prop} {s : Shared} {h₀ : Heap} {L : Addr} {m : Str → Option Value} {news : Led}
theorem sh3t (x y z : Int) : shaped (.tuple [.int x, .int y, .int z]) = true ∧ noMix (.tuple [.int x, .int y, .int z]) (.tuple [.int x, .int y, .int z]) = true := by
  constructor
  · simp [shaped, PyData.canLay0, PyData.canLayAll0, PyData.depth, PyData.depthAll]
  · simp [noMix, noMixAll]
theorem sh3l (x y z : Int) : shaped (.list [.int x, .int y, .int z]) = true ∧ noMix (.list [.int x, .int y, .int z]) (.list [.int x, .int y, .int z]) = true := by
  constructor
  · simp [shaped, PyData.canLay0, PyData.canLayAll0, PyData.depth, PyData.depthAll]
  · simp [noMix, noMixAll]
theorem rd3 (h : Heap) {x y z : Int} {t u v : Tok} : ReadsAll h [.int x t, .int y u, .int z v] [.int x, .int y, .int z] [] := ReadsAll.cons (Reads.int _ _) (ReadsAll.cons (Reads.int _ _) (ReadsAll.cons (Reads.int _ _) ReadsAll.nil))
theorem ne_t3 {a b : Addr} {c d : Nat} {x y z x' y' z' : Int} {t u v t' u' v' : Tok} {Q : Value → Shared → Prop} (N : News h₀ L s.heap news) (ha : (a, tupOf #[.int x t, .int y u, .int z v] c) ∈ news) (hb : (b, tupOf #[.int x' t', .int y' u', .int z' v'] d) ∈ news)
    (e1 : x = x') (e2 : y = y') (e3 : z = z') (hu : A.units + 64 < cLine) (h : Q (.bool false) s) : wpAny (model prog w) A (compareOp .NotEq (.ref a) (.ref b)) Q E s := by
  subst e1 e2 e3
  exact nt_ne (nt_rtup N ha (rd3 _)) (nt_rtup N hb (rd3 _)) rfl (sh3t _ _ _).1 (sh3t _ _ _).2 hu h
theorem ne_l3 {a b : Addr} {c d : Nat} {x y z x' y' z' : Int} {t u v t' u' v' : Tok} {Q : Value → Shared → Prop} (N : News h₀ L s.heap news) (ha : (a, listOf #[.int x t, .int y u, .int z v] c) ∈ news) (hb : (b, listOf #[.int x' t', .int y' u', .int z' v'] d) ∈ news)
    (e1 : x = x') (e2 : y = y') (e3 : z = z') (hu : A.units + 64 < cLine) (h : Q (.bool false) s) : wpAny (model prog w) A (compareOp .NotEq (.ref a) (.ref b)) Q E s := by
  subst e1 e2 e3
  exact nt_ne (nt_rlist N ha (rd3 _)) (nt_rlist N hb (rd3 _)) rfl (sh3l _ _ _).1 (sh3l _ _ _).2 hu h
theorem ne_l0 {a b : Addr} {c d : Nat} {Q : Value → Shared → Prop} (N : News h₀ L s.heap news) (ha : (a, listOf #[] c) ∈ news) (hb : (b, listOf #[] d) ∈ news)
    (hu : A.units + 64 < cLine) (h : Q (.bool false) s) : wpAny (model prog w) A (compareOp .NotEq (.ref a) (.ref b)) Q E s :=
  nt_ne (nt_rlist N ha ReadsAll.nil) (nt_rlist N hb ReadsAll.nil) rfl (by decide) (by decide) hu h
theorem eq_l0 {a b : Addr} {c d : Nat} {Q : Value → Shared → Prop} (N : News h₀ L s.heap news) (ha : (a, listOf #[] c) ∈ news) (hb : (b, listOf #[] d) ∈ news)
    (hu : A.units + 64 < cLine) (h : Q (.bool true) s) : wpAny (model prog w) A (compareOp .Eq (.ref a) (.ref b)) Q E s :=
  nt_eq (nt_rlist N ha ReadsAll.nil) (nt_rlist N hb ReadsAll.nil) rfl (by decide) (by decide) hu h
/-- the items of both sides lie within one -/
def Near (xs ys : Array Value) : Prop := ∀ (i : Nat) (x y : Value), xs[i]? = some x → ys[i]? = some y → ∃ p q t u, x = .int p t ∧ y = .int q u ∧ -1 ≤ p - q ∧ p - q ≤ 1
theorem near33 {x y z x' y' z' : Int} {t u v t' u' v' : Tok} (h1 : -1 ≤ x - x' ∧ x - x' ≤ 1) (h2 : -1 ≤ y - y' ∧ y - y' ≤ 1) (h3 : -1 ≤ z - z' ∧ z - z' ≤ 1) : Near #[.int x t, .int y u, .int z v] #[.int x' t', .int y' u', .int z' v'] := by
  intro i a b ha hb
  match i with
  | 0 => cases ha; cases hb; exact ⟨_, _, _, _, rfl, rfl, h1⟩
  | 1 => cases ha; cases hb; exact ⟨_, _, _, _, rfl, rfl, h2⟩
  | 2 => cases ha; cases hb; exact ⟨_, _, _, _, rfl, rfl, h3⟩
  | n + 3 => simp at ha
theorem near43 {x y z x' y' z' : Int} {w : Value} {t u v t' u' v' : Tok} (h1 : -1 ≤ x - x' ∧ x - x' ≤ 1) (h2 : -1 ≤ y - y' ∧ y - y' ≤ 1) (h3 : -1 ≤ z - z' ∧ z - z' ≤ 1) : Near #[.int x t, .int y u, .int z v, w] #[.int x' t', .int y' u', .int z' v'] := by
  intro i a b ha hb
  match i with
  | 0 => cases ha; cases hb; exact ⟨_, _, _, _, rfl, rfl, h1⟩
  | 1 => cases ha; cases hb; exact ⟨_, _, _, _, rfl, rfl, h2⟩
  | 2 => cases ha; cases hb; exact ⟨_, _, _, _, rfl, rfl, h3⟩
  | n + 3 => simp at hb
theorem nt_near {env : Env} {elt c : PySem.Expr} {a b : Str} {pa pb tp : Pos} {kk : Nat} {scope : Scope} {cl : List (Str × Addr)} {pos : Pos} {Q : Value → Shared → Prop} {l1 l2 : Addr} {xs ys : Array Value} {n1 n2 : Nat} {news : Led} {iter : PySem.Expr}
    (hh : A.handled = none) (F : Fr h₀ L s.heap m) (N : News h₀ L s.heap news) (hm1 : (l1, tupOf xs n1) ∈ news) (hm2 : (l2, listOf ys n2) ∈ news) (near : Near xs ys)
    (hclos : closureFor scope env = pure cl) (hcell : ∀ y ∈ scope.names, y.2 ≠ .cell) (hkind : scope.kind = .function)
    (hnames : ∀ y ∈ scope.names, y.2 = .local → scope.names.lookup y.1 = some .local) (hxa : scope.names.lookup a = some .local) (hxb : scope.names.lookup b = some .local) (hab : ¬ a = b)
    (hiter : ∀ Q', wpAny (model prog w) A (call (.type "zip") [.ref l1, .ref l2]) Q' E s → wpAny (model prog w) A (eval iter env) Q' E s)
    (turn : ∀ (p q : Int) (t u : Tok), -1 ≤ p - q → p - q ≤ 1 → ∀ h, NoTurn prog w A h₀ L m c a b scope cl env { s with heap := h } news (.int p t) (.int q u))
    (h : ∀ D h tk, Fr h₀ L h m → News h₀ L h ((D, listOf #[] 0) :: news) → AllLt D news → Q (.ref D) { s with heap := h, toks := tk })
    (hs : ∀ x, foldedSetIterable iter env x = pure x := by intro _; rfl) :
    wpAny (model prog w) A (eval (.ListComp elt [⟨.Tuple [.Name a pa, .Name b pb] kk tp, iter, [c], 0⟩] scope pos) env) Q E s :=
  nt_none hh F N hm1 hm2 hclos hcell hkind hnames hxa hxb hab hiter (fun i x y hx hy g => by
    obtain ⟨p, q, t, u, rfl, rfl, h1, h2⟩ := near i x y hx hy
    exact turn p q t u h1 h2 g) h hs
end
end
local macro_rules | `(tactic| k_enter) => `(tactic| (k_extra "k_enter"; ((fail_if_success k_inElt); first | (refine' code_def ?k1 ?k2 ?k3 ?k4 ?k5 ?kA ?kF ?kK ?k6 ?k7 ?k8 ?k9 ?kB ?_ ?c2 ?c3 ?c4 ?c5; (case kA => exact rfl); (case kF => exact rfl); (case kK => first | exact rfl | assumption); (case k1 => k_asm); (case k2 => k_asm); (case k3 => k_asm); (case k4 => k_asm); (case k5 => k_asm); (case k6 => k_is); (case k7 => k_is); (case k8 => k_room); (case k9 => first | exact BindsTo.of_eq rfl | exact binds_K (by k_in) rfl (by k_is) rfl rfl rfl | fail "k_enter: no rule for these arguments"); (case c5 => decide); (case kB => exact locs rfl); (case c2 => exact rfl); (case c3 => exact rfl); (case c4 => exact rfl); k_whole; intro g' L' h' FG' F' N' B' X' T'; (try dsimp only); (try k_lift B'); (try k_fold)) | (refine' code_defC ?k1 ?k2 ?k3 ?k4 ?k5 ?kA ?kF ?kK ?k6 ?k7 ?k8 ?k9 ?kB ?kD ?_ ?c2 ?c3 ?c4; (case kA => exact rfl); (case kF => exact rfl); (case kK => first | exact rfl | assumption); (case k1 => k_asm); (case k2 => k_asm); (case k3 => k_asm); (case k4 => k_asm); (case k5 => k_asm); (case k6 => k_is); (case k7 => k_is); (case k8 => k_room); (case k9 => first | exact BindsTo.of_eq rfl | exact binds_K (by k_in) rfl (by k_is) rfl rfl rfl | fail "k_enter: no rule for these arguments"); (case kB => exact rfl); (case kD => decide +kernel); (case c2 => exact rfl); (case c3 => exact rfl); (case c4 => exact rfl); k_whole; intro g' L' h' tk' cells' FG' F' N' Y' B' X' T' l1; (first | k_lt l1 | (replace l1 := allLt_of l1) | skip); k_cells Y'; (try simp only [List.cons_append, List.nil_append] at N'); (try dsimp only); (try k_lift B'); (try k_fold)))))
-- NtPure
section
open PySem PySem.W PySem.Spec PySem.Calls PyProof.Rows PySem.SeqAt
theorem c_mid (w : World) (news : Led) (p : Int) (tp : Tok) (hp : 2 ≤ p ∧ p ≤ 8) :
   Con w 147 [.int p tp] news 1 (fun h₀ L m Q => ∀ (M : Int) (t : Tok) (h' : Heap) (tk' : Nat), M = mid p → 2 ≤ M → M ≤ 128 → Fr h₀ L h' m → News h₀ L h' news → Q (.int M t) h' tk') := by
  w_top off
  k_with_none
  k_with "k_room" => skip
  k_with "units_room" => skip
  k_with "k_all" => ((with_reducible rename AllLt _ _ => hx9); first | exact allLt_ne hx9 (by (try dsimp only); omega) | (clear hx9; k_all))
  k_with "k_all" => first | assumption | exact off1_all (by assumption) | ((with_reducible rename _ ∧ AllLt _ _ => hx9); first | exact allLt_ne hx9.2 (by (try dsimp only); omega) | (clear hx9; k_all))
  k_with "k_all" => first | assumption | exact off1_all (by assumption)
  k_with "k_mem" => assumption
  k_with "lcg_off" => first | exact True.intro | assumption | (refine And.intro (by first | assumption | exact ⟨by k_ne, by k_ne, by k_ne⟩) ?_; lcg_off)
  k_with "k_enter" => skip
  k_with "CompEnd" => (refine' nt_compEnd ?F ?N ?P1 ?P2 ?P3 ?off ?S ?_; (case F => assumption); (case N => assumption); (case P1 => repeat' (first | exact Pick.head | refine' Pick.tail ?_)); (case P2 => repeat' (first | exact Pick.head | refine' Pick.tail ?_)); (case P3 => repeat' (first | exact Pick.head | refine' Pick.tail ?_)); (case off => lcg_off); (case S => first | lcg_src | assumption))
  k_with "eval ListComp" => (k_here; k_dflt (refine LCg.ListComp_U (F₀ := by k_asm) (by with_unfolding_all rfl) (by decide) (by rfl) (by decide) (by rfl) ?_))
  k_with "exec Assign cons ListComp" => (k_here; k_dflt (refine LCg.Assign_ListComp_U (F₀ := by k_asm) (by rfl) (by with_unfolding_all rfl) (by with_unfolding_all rfl) (by decide) (by rfl) (by decide) (by rfl) (by rfl) (by rfl) ?_))
  k_with "eval ListComp" => (k_here; k_dflt (refine LCt.ListComp_T (F₀ := by k_asm) (by with_unfolding_all rfl) (by decide) (by rfl) (by decide) (by rfl) ?_))
  k_with "CompSrcT" => (k_here; k_dflt (first | (refine LCt.CompSrcT.ledger (by rfl) (by k_asm) (by k_asm) (by k_mem) (by first | size_fits | exact Nat.le_of_ble_eq_true rfl) ?_; intro g'; lct_lit) | (refine LCt.CompSrcT.range (by rfl) (by k_asm) (by k_asm) (by assumption) (by first | decide | rfl) (by first | rfl | decide) (by first | size_fits | exact Nat.le_of_ble_eq_true rfl) ?_; intro g'; lct_lit)))
  k_with "CompRestT" => (with_unfolding_all first | (refine LCt.CompRestT.succ ?_; intro v' I' oI' C' oC' D' m' h' tk' E' hv' hC' hx' F' N' off' ne'; (first | lcg_open hv' | (obtain ⟨t9', hv9'⟩ := hv'; subst hv9')); (repeat (obtain ⟨ho', off'⟩ := off'))) | refine LCt.CompRestT.zero ?_)
  k_with "CompSrc" => (k_here; k_dflt (first | (refine LCg.CompSrc.ledger (by rfl) (by k_asm) (by k_asm) (by k_mem) (by first | size_fits | exact Nat.le_of_ble_eq_true rfl) ?_; intro g'; lcg_lit) | (refine LCg.CompSrc.range (by rfl) (by k_asm) (by k_asm) (by assumption) (by first | decide | rfl) (by first | rfl | decide) (by first | size_fits | exact Nat.le_of_ble_eq_true rfl) ?_; intro g'; lcg_lit)))
  k_with "CompRest" => (with_unfolding_all first | (refine LCg.CompRest.succ ?_; intro v' I' oI' C' oC' D' m' h' tk' E' hv' hC' hx' F' N' off' ne'; (first | lcg_open hv' | (obtain ⟨t9', hv9'⟩ := hv'; subst hv9')); (repeat (obtain ⟨ho', off'⟩ := off'))) | refine LCg.CompRest.zero ?_)
  k_with "execs cons" => ((with_reducible refine gen_toks (fun tk => ?_)); (with_reducible refine wpAny_execs_cons ?_); (try dsimp only); (try k_fold))
  k_with "subscriptTail" => (k_here; (with_reducible show wpAny _ _ (subscriptTail _ _ (Value.ref _) (Value.int _ _)) _ _ _); k_dflt (first | (refine' nt_item ?N ?hm ?k2 ?k3 ?k4 ?_ ?k6; (case N => k_asm); (case hm => k_mem); (case k2 => decide); (case k3 => decide); (case k4 => exact rfl); (case k6 => with_unfolding_all rfl); k_whole) | (refine' nt_itemK ?X ?F ?hl ?k2 ?k3 ?k4 ?_ ?k6 ?k7; (case F => k_asm); (case X => k_asm); (case hl => k_is); (case k2 => decide); (case k3 => decide); (case k4 => exact rfl); (case k6 => with_unfolding_all rfl); (case k7 => intro _; with_unfolding_all rfl); k_whole) | (refine' nt_itemT ?N ?hm ?k2 ?k3 ?k4 ?_ ?k6 ?k7; (case N => k_asm); (case hm => k_mem); (case k2 => decide); (case k3 => decide); (case k4 => exact rfl); (case k6 => with_unfolding_all rfl); (case k7 => intro _; with_unfolding_all rfl); k_whole)))
  k_with "subscriptTail Name Constant ref int" => (k_here; (with_reducible show wpAny _ _ (subscriptTail _ _ (Value.ref _) (Value.int _ _)) _ _ _); k_dflt (first | (refine' nt_item ?N ?hm ?k2 ?k3 ?k4 ?_ ?k6; (case N => k_asm); (case hm => k_mem); (case k2 => decide); (case k3 => decide); (case k4 => exact rfl); (case k6 => with_unfolding_all rfl); k_whole) | (refine' nt_itemK ?X ?F ?hl ?k2 ?k3 ?k4 ?_ ?k6 ?k7; (case F => k_asm); (case X => k_asm); (case hl => k_is); (case k2 => decide); (case k3 => decide); (case k4 => exact rfl); (case k6 => with_unfolding_all rfl); (case k7 => intro _; with_unfolding_all rfl); k_whole) | (refine' nt_itemT ?N ?hm ?k2 ?k3 ?k4 ?_ ?k6 ?k7; (case N => k_asm); (case hm => k_mem); (case k2 => decide); (case k3 => decide); (case k4 => exact rfl); (case k6 => with_unfolding_all rfl); (case k7 => intro _; with_unfolding_all rfl); k_whole)))
  k_with "subscriptTail Name Name ref int" => (k_here; (with_reducible show wpAny _ _ (subscriptTail _ _ (Value.ref _) (Value.int _ _)) _ _ _); k_dflt (first | (refine' nt_item ?N ?hm ?k2 ?k3 ?k4 ?_ ?k6; (case N => k_asm); (case hm => k_mem); (case k2 => decide); (case k3 => decide); (case k4 => exact rfl); (case k6 => with_unfolding_all rfl); k_whole) | (refine' nt_itemK ?X ?F ?hl ?k2 ?k3 ?k4 ?_ ?k6 ?k7; (case F => k_asm); (case X => k_asm); (case hl => k_is); (case k2 => decide); (case k3 => decide); (case k4 => exact rfl); (case k6 => with_unfolding_all rfl); (case k7 => intro _; with_unfolding_all rfl); k_whole) | (refine' nt_itemT ?N ?hm ?k2 ?k3 ?k4 ?_ ?k6 ?k7; (case N => k_asm); (case hm => k_mem); (case k2 => decide); (case k3 => decide); (case k4 => exact rfl); (case k6 => with_unfolding_all rfl); (case k7 => intro _; with_unfolding_all rfl); k_whole)))
  k_with "subscriptTail Attribute Name Constant ref int" => (k_here; (with_reducible show wpAny _ _ (subscriptTail _ _ (Value.ref _) (Value.int _ _)) _ _ _); k_dflt (first | (refine' nt_item ?N ?hm ?k2 ?k3 ?k4 ?_ ?k6; (case N => k_asm); (case hm => k_mem); (case k2 => decide); (case k3 => decide); (case k4 => exact rfl); (case k6 => with_unfolding_all rfl); k_whole) | (refine' nt_itemK ?X ?F ?hl ?k2 ?k3 ?k4 ?_ ?k6 ?k7; (case F => k_asm); (case X => k_asm); (case hl => k_is); (case k2 => decide); (case k3 => decide); (case k4 => exact rfl); (case k6 => with_unfolding_all rfl); (case k7 => intro _; with_unfolding_all rfl); k_whole) | (refine' nt_itemT ?N ?hm ?k2 ?k3 ?k4 ?_ ?k6 ?k7; (case N => k_asm); (case hm => k_mem); (case k2 => decide); (case k3 => decide); (case k4 => exact rfl); (case k6 => with_unfolding_all rfl); (case k7 => intro _; with_unfolding_all rfl); k_whole)))
  k_with "subscriptTail Attribute Name Name ref int" => (k_here; (with_reducible show wpAny _ _ (subscriptTail _ _ (Value.ref _) (Value.int _ _)) _ _ _); k_dflt (first | (refine' nt_item ?N ?hm ?k2 ?k3 ?k4 ?_ ?k6; (case N => k_asm); (case hm => k_mem); (case k2 => decide); (case k3 => decide); (case k4 => exact rfl); (case k6 => with_unfolding_all rfl); k_whole) | (refine' nt_itemK ?X ?F ?hl ?k2 ?k3 ?k4 ?_ ?k6 ?k7; (case F => k_asm); (case X => k_asm); (case hl => k_is); (case k2 => decide); (case k3 => decide); (case k4 => exact rfl); (case k6 => with_unfolding_all rfl); (case k7 => intro _; with_unfolding_all rfl); k_whole) | (refine' nt_itemT ?N ?hm ?k2 ?k3 ?k4 ?_ ?k6 ?k7; (case N => k_asm); (case hm => k_mem); (case k2 => decide); (case k3 => decide); (case k4 => exact rfl); (case k6 => with_unfolding_all rfl); (case k7 => intro _; with_unfolding_all rfl); k_whole)))
  k_with "subscriptTail Subscript Name ref int" => (k_here; (with_reducible show wpAny _ _ (subscriptTail _ _ (Value.ref _) (Value.int _ _)) _ _ _); k_dflt (first | (refine' nt_item ?N ?hm ?k2 ?k3 ?k4 ?_ ?k6; (case N => k_asm); (case hm => k_mem); (case k2 => decide); (case k3 => decide); (case k4 => exact rfl); (case k6 => with_unfolding_all rfl); k_whole) | (refine' nt_itemK ?X ?F ?hl ?k2 ?k3 ?k4 ?_ ?k6 ?k7; (case F => k_asm); (case X => k_asm); (case hl => k_is); (case k2 => decide); (case k3 => decide); (case k4 => exact rfl); (case k6 => with_unfolding_all rfl); (case k7 => intro _; with_unfolding_all rfl); k_whole) | (refine' nt_itemT ?N ?hm ?k2 ?k3 ?k4 ?_ ?k6 ?k7; (case N => k_asm); (case hm => k_mem); (case k2 => decide); (case k3 => decide); (case k4 => exact rfl); (case k6 => with_unfolding_all rfl); (case k7 => intro _; with_unfolding_all rfl); k_whole)))
  k_with "subscriptTail Subscript Constant ref int" => (k_here; (with_reducible show wpAny _ _ (subscriptTail _ _ (Value.ref _) (Value.int _ _)) _ _ _); k_dflt (first | (refine' nt_item ?N ?hm ?k2 ?k3 ?k4 ?_ ?k6; (case N => k_asm); (case hm => k_mem); (case k2 => decide); (case k3 => decide); (case k4 => exact rfl); (case k6 => with_unfolding_all rfl); k_whole) | (refine' nt_itemK ?X ?F ?hl ?k2 ?k3 ?k4 ?_ ?k6 ?k7; (case F => k_asm); (case X => k_asm); (case hl => k_is); (case k2 => decide); (case k3 => decide); (case k4 => exact rfl); (case k6 => with_unfolding_all rfl); (case k7 => intro _; with_unfolding_all rfl); k_whole) | (refine' nt_itemT ?N ?hm ?k2 ?k3 ?k4 ?_ ?k6 ?k7; (case N => k_asm); (case hm => k_mem); (case k2 => decide); (case k3 => decide); (case k4 => exact rfl); (case k6 => with_unfolding_all rfl); (case k7 => intro _; with_unfolding_all rfl); k_whole)))
  k_with "setItem ref int" => (k_here; k_dflt (refine' ki_set ?F ?N ?k2 ?k3 ?k4 ?U ?_; (case F => k_asm); (case N => k_asm); (case U => k_upd); (case k2 => decide); (case k3 => decide); (case k4 => exact rfl); k_whole); intro h' F' N'; (try k_sweep))
  k_with "eval Name" => (k_here; (with_reducible show wpAny _ _ (eval (Expr.Name _ _) (envOf _ _ _ _ _)) _ _ _); (with_reducible rename Fr _ _ _ _ => kF); k_dflt (first | (name_kind "local"; (refine' ld kF ?k2 ?_ ?a ?b ?c; (case k2 => exact rfl); (case a => kernel_rfl!); (case b => kernel_rfl!); (case c => decide +kernel)); k_whole) | (name_kind "globalImplicit"; (refine' name_K kF ?k1 ?k2 ?k3 ?_ ?a ?b ?c; (case k1 => k_asm); (case k2 => k_asm); (case k3 => k_is); (case a => kernel_rfl!); (case b => kernel_rfl!); (case c => decide +kernel); k_whole)) | (refine' name_B kF ?k1 ?k2 ?k3 ?k4 ?k5 ?_; (case k1 => k_asm); (case k2 => k_asm); (case k3 => k_is); (case k4 => boot_by_name); (case k5 => decide); k_whole)))
  k_with "compareOp NotEq ref ref" => (k_here; k_dflt (refine' nt_ne ?ra ?rb ?e ?sh ?mx ?hu ?_; (case ra => (repeat' (first | exact ReadsAll.nil | refine ReadsAll.cons ?_ ?_ | exact Reads.int _ _ | exact Reads.str _ _ | exact Reads.bool _ | (refine' nt_rlist ?N9 ?m9 ?_; (case N9 => k_asm); (case m9 => k_mem)) | (refine' nt_rtup ?N9 ?m9 ?_; (case N9 => k_asm); (case m9 => k_mem))))); (case rb => (repeat' (first | exact ReadsAll.nil | refine ReadsAll.cons ?_ ?_ | exact Reads.int _ _ | exact Reads.str _ _ | exact Reads.bool _ | (refine' nt_rlist ?N9 ?m9 ?_; (case N9 => k_asm); (case m9 => k_mem)) | (refine' nt_rtup ?N9 ?m9 ?_; (case N9 => k_asm); (case m9 => k_mem))))); (case e => first | rfl | ((try simp only [PyData.list.injEq, PyData.tuple.injEq, PyData.int.injEq, PyData.str.injEq, List.cons.injEq, and_true, true_and]); first | rfl | omega | ((repeat' (refine And.intro ?_ ?_)) <;> first | rfl | omega))); (case sh => first | decide | (simp [shaped, PyData.canLay0, PyData.canLayAll0, PyData.depth, PyData.depthAll]; done)); (case mx => first | decide | (simp [noMix, noMixAll]; done)); (case hu => units_room)))
  k_with "compareOp Eq ref ref" => (k_here; k_dflt (refine' nt_eq ?ra ?rb ?e ?sh ?mx ?hu ?_; (case ra => (repeat' (first | exact ReadsAll.nil | refine ReadsAll.cons ?_ ?_ | exact Reads.int _ _ | exact Reads.str _ _ | exact Reads.bool _ | (refine' nt_rlist ?N9 ?m9 ?_; (case N9 => k_asm); (case m9 => k_mem)) | (refine' nt_rtup ?N9 ?m9 ?_; (case N9 => k_asm); (case m9 => k_mem))))); (case rb => (repeat' (first | exact ReadsAll.nil | refine ReadsAll.cons ?_ ?_ | exact Reads.int _ _ | exact Reads.str _ _ | exact Reads.bool _ | (refine' nt_rlist ?N9 ?m9 ?_; (case N9 => k_asm); (case m9 => k_mem)) | (refine' nt_rtup ?N9 ?m9 ?_; (case N9 => k_asm); (case m9 => k_mem))))); (case e => first | rfl | ((try simp only [PyData.list.injEq, PyData.tuple.injEq, PyData.int.injEq, PyData.str.injEq, List.cons.injEq, and_true, true_and]); first | rfl | omega | ((repeat' (refine And.intro ?_ ?_)) <;> first | rfl | omega))); (case sh => first | decide | (simp [shaped, PyData.canLay0, PyData.canLayAll0, PyData.depth, PyData.depthAll]; done)); (case mx => first | decide | (simp [noMix, noMixAll]; done)); (case hu => units_room)))
  k_with "eval Call" => ((with_reducible show wpAny _ _ (eval (Expr.Call (Expr.Name _ _) _ [] _) (envOf _ _ _ _ _)) _ _ _); k_dflt (refine Call_ ?_))
  unfold Con
  k_fill
  intro mean mg mb dp un gd cn cs a ccd cl outer A₀ base h₀ L m s Q E B F X N T hk hd hu hret
  refine wpAny_call ?_
  k_dflt k_enter
  k_steps
  have e1 : (1 : Int) * 2 ^ (p - 1).toNat = mid p := by unfold mid; omega
  have e2 := mid_le hp
  refine' hret _ _ _ _ e1 (by omega) (by omega) ?F ?N; (case F => assumption); (case N => assumption)
theorem c_most (w : World) (news : Led) (p : Int) (tp : Tok) (hp : 2 ≤ p ∧ p ≤ 8) :
   Con w 140 [.int p tp] news 1 (fun h₀ L m Q => ∀ (M : Int) (t : Tok) (h' : Heap) (tk' : Nat), M = 2 * mid p - 1 → 3 ≤ M → M ≤ 255 → Fr h₀ L h' m → News h₀ L h' news → Q (.int M t) h' tk') := by
  unfold Con
  k_fill
  intro mean mg mb dp un gd cn cs a ccd cl outer A₀ base h₀ L m s Q E B F X N T hk hd hu hret
  refine wpAny_call ?_
  k_dflt k_enter
  k_steps
  have e1 := pow_mid hp
  have e2 := mid_le hp
  have e3 : (1 : Int) * 2 ^ p.toNat - 1 = 2 * mid p - 1 := by omega
  refine' hret _ _ _ _ e3 (by omega) (by omega) ?F ?N; (case F => assumption); (case N => assumption)
theorem c_clamp (w : World) (news : Led) (v q : Int) (t1 t2 : Tok) :
   Con w 154 [.int v t1, .int q t2] news 1 (fun h₀ L m Q => ∀ (x : Int) (t : Tok) (h' : Heap) (tk' : Nat), x = cl v q → Fr h₀ L h' m → News h₀ L h' news → Q (.int x t) h' tk') := by
  unfold Con
  k_fill
  intro mean mg mb dp un gd cn cs a ccd cl outer A₀ base h₀ L m s Q E B F X N T hk hd hu hret
  refine wpAny_call ?_
  k_dflt k_enter
  k_steps
  all_goals (refine' hret _ _ _ _ ?_ ?F ?N; (case F => assumption); (case N => assumption))
  all_goals (unfold Mine.cl; (try simp only [decide_eq_true_eq, decide_eq_false_iff_not] at *); (repeat' split) <;> first | rfl | omega)
end
-- NtYcc
section
open PySem PySem.W PySem.Spec PySem.Calls PyProof.Rows PySem.SeqAt
theorem c_ycc (w : World) (news : Led) (r g b p : Int) (t1 t2 t3 t4 : Tok) (hp : 2 ≤ p ∧ p ≤ 8) (hr : 0 ≤ r ∧ r ≤ 255) (hg : 0 ≤ g ∧ g ≤ 255) (hb : 0 ≤ b ∧ b ≤ 255) :
   Con w 176 [.int r t1, .int g t2, .int b t3, .int p t4] news 2 (fun h₀ L m Q => ∀ (D : Addr) (y cb cr : Int) (ty tb tr : Tok) (c : Nat) (h' : Heap) (tk' : Nat), y = fY r g b → cb = fCb (mid p) r g b → cr = fCr (mid p) r g b → Fr h₀ L h' m → News h₀ L h' ((D, tupOf #[.int y ty, .int cb tb, .int cr tr] c) :: news) → AllLt D news → Q (.ref D) h' tk') := by
  w_top off
  k_with_none
  k_with "k_room" => skip
  k_with "units_room" => skip
  k_with "k_all" => ((with_reducible rename AllLt _ _ => hx9); first | exact allLt_ne hx9 (by (try dsimp only); omega) | (clear hx9; k_all))
  k_with "k_all" => first | assumption | exact off1_all (by assumption) | ((with_reducible rename _ ∧ AllLt _ _ => hx9); first | exact allLt_ne hx9.2 (by (try dsimp only); omega) | (clear hx9; k_all))
  k_with "k_all" => first | assumption | exact off1_all (by assumption)
  k_with "k_mem" => assumption
  k_with "lcg_off" => first | exact True.intro | assumption | (refine And.intro (by first | assumption | exact ⟨by k_ne, by k_ne, by k_ne⟩) ?_; lcg_off)
  k_with "k_enter" => skip
  k_with "CompEnd" => (refine' nt_compEnd ?F ?N ?P1 ?P2 ?P3 ?off ?S ?_; (case F => assumption); (case N => assumption); (case P1 => repeat' (first | exact Pick.head | refine' Pick.tail ?_)); (case P2 => repeat' (first | exact Pick.head | refine' Pick.tail ?_)); (case P3 => repeat' (first | exact Pick.head | refine' Pick.tail ?_)); (case off => lcg_off); (case S => first | lcg_src | assumption))
  k_with "eval ListComp" => (k_here; k_dflt (refine LCg.ListComp_U (F₀ := by k_asm) (by with_unfolding_all rfl) (by decide) (by rfl) (by decide) (by rfl) ?_))
  k_with "exec Assign cons ListComp" => (k_here; k_dflt (refine LCg.Assign_ListComp_U (F₀ := by k_asm) (by rfl) (by with_unfolding_all rfl) (by with_unfolding_all rfl) (by decide) (by rfl) (by decide) (by rfl) (by rfl) (by rfl) ?_))
  k_with "eval ListComp" => (k_here; k_dflt (refine LCt.ListComp_T (F₀ := by k_asm) (by with_unfolding_all rfl) (by decide) (by rfl) (by decide) (by rfl) ?_))
  k_with "CompSrcT" => (k_here; k_dflt (first | (refine LCt.CompSrcT.ledger (by rfl) (by k_asm) (by k_asm) (by k_mem) (by first | size_fits | exact Nat.le_of_ble_eq_true rfl) ?_; intro g'; lct_lit) | (refine LCt.CompSrcT.range (by rfl) (by k_asm) (by k_asm) (by assumption) (by first | decide | rfl) (by first | rfl | decide) (by first | size_fits | exact Nat.le_of_ble_eq_true rfl) ?_; intro g'; lct_lit)))
  k_with "CompRestT" => (with_unfolding_all first | (refine LCt.CompRestT.succ ?_; intro v' I' oI' C' oC' D' m' h' tk' E' hv' hC' hx' F' N' off' ne'; (first | lcg_open hv' | (obtain ⟨t9', hv9'⟩ := hv'; subst hv9')); (repeat (obtain ⟨ho', off'⟩ := off'))) | refine LCt.CompRestT.zero ?_)
  k_with "CompSrc" => (k_here; k_dflt (first | (refine LCg.CompSrc.ledger (by rfl) (by k_asm) (by k_asm) (by k_mem) (by first | size_fits | exact Nat.le_of_ble_eq_true rfl) ?_; intro g'; lcg_lit) | (refine LCg.CompSrc.range (by rfl) (by k_asm) (by k_asm) (by assumption) (by first | decide | rfl) (by first | rfl | decide) (by first | size_fits | exact Nat.le_of_ble_eq_true rfl) ?_; intro g'; lcg_lit)))
  k_with "CompRest" => (with_unfolding_all first | (refine LCg.CompRest.succ ?_; intro v' I' oI' C' oC' D' m' h' tk' E' hv' hC' hx' F' N' off' ne'; (first | lcg_open hv' | (obtain ⟨t9', hv9'⟩ := hv'; subst hv9')); (repeat (obtain ⟨ho', off'⟩ := off'))) | refine LCg.CompRest.zero ?_)
  k_with "execs cons" => ((with_reducible refine gen_toks (fun tk => ?_)); (with_reducible refine wpAny_execs_cons ?_); (try dsimp only); (try k_fold))
  k_with "subscriptTail" => (k_here; (with_reducible show wpAny _ _ (subscriptTail _ _ (Value.ref _) (Value.int _ _)) _ _ _); k_dflt (first | (refine' nt_item ?N ?hm ?k2 ?k3 ?k4 ?_ ?k6; (case N => k_asm); (case hm => k_mem); (case k2 => decide); (case k3 => decide); (case k4 => exact rfl); (case k6 => with_unfolding_all rfl); k_whole) | (refine' nt_itemK ?X ?F ?hl ?k2 ?k3 ?k4 ?_ ?k6 ?k7; (case F => k_asm); (case X => k_asm); (case hl => k_is); (case k2 => decide); (case k3 => decide); (case k4 => exact rfl); (case k6 => with_unfolding_all rfl); (case k7 => intro _; with_unfolding_all rfl); k_whole) | (refine' nt_itemT ?N ?hm ?k2 ?k3 ?k4 ?_ ?k6 ?k7; (case N => k_asm); (case hm => k_mem); (case k2 => decide); (case k3 => decide); (case k4 => exact rfl); (case k6 => with_unfolding_all rfl); (case k7 => intro _; with_unfolding_all rfl); k_whole)))
  k_with "subscriptTail Name Constant ref int" => (k_here; (with_reducible show wpAny _ _ (subscriptTail _ _ (Value.ref _) (Value.int _ _)) _ _ _); k_dflt (first | (refine' nt_item ?N ?hm ?k2 ?k3 ?k4 ?_ ?k6; (case N => k_asm); (case hm => k_mem); (case k2 => decide); (case k3 => decide); (case k4 => exact rfl); (case k6 => with_unfolding_all rfl); k_whole) | (refine' nt_itemK ?X ?F ?hl ?k2 ?k3 ?k4 ?_ ?k6 ?k7; (case F => k_asm); (case X => k_asm); (case hl => k_is); (case k2 => decide); (case k3 => decide); (case k4 => exact rfl); (case k6 => with_unfolding_all rfl); (case k7 => intro _; with_unfolding_all rfl); k_whole) | (refine' nt_itemT ?N ?hm ?k2 ?k3 ?k4 ?_ ?k6 ?k7; (case N => k_asm); (case hm => k_mem); (case k2 => decide); (case k3 => decide); (case k4 => exact rfl); (case k6 => with_unfolding_all rfl); (case k7 => intro _; with_unfolding_all rfl); k_whole)))
  k_with "subscriptTail Name Name ref int" => (k_here; (with_reducible show wpAny _ _ (subscriptTail _ _ (Value.ref _) (Value.int _ _)) _ _ _); k_dflt (first | (refine' nt_item ?N ?hm ?k2 ?k3 ?k4 ?_ ?k6; (case N => k_asm); (case hm => k_mem); (case k2 => decide); (case k3 => decide); (case k4 => exact rfl); (case k6 => with_unfolding_all rfl); k_whole) | (refine' nt_itemK ?X ?F ?hl ?k2 ?k3 ?k4 ?_ ?k6 ?k7; (case F => k_asm); (case X => k_asm); (case hl => k_is); (case k2 => decide); (case k3 => decide); (case k4 => exact rfl); (case k6 => with_unfolding_all rfl); (case k7 => intro _; with_unfolding_all rfl); k_whole) | (refine' nt_itemT ?N ?hm ?k2 ?k3 ?k4 ?_ ?k6 ?k7; (case N => k_asm); (case hm => k_mem); (case k2 => decide); (case k3 => decide); (case k4 => exact rfl); (case k6 => with_unfolding_all rfl); (case k7 => intro _; with_unfolding_all rfl); k_whole)))
  k_with "subscriptTail Attribute Name Constant ref int" => (k_here; (with_reducible show wpAny _ _ (subscriptTail _ _ (Value.ref _) (Value.int _ _)) _ _ _); k_dflt (first | (refine' nt_item ?N ?hm ?k2 ?k3 ?k4 ?_ ?k6; (case N => k_asm); (case hm => k_mem); (case k2 => decide); (case k3 => decide); (case k4 => exact rfl); (case k6 => with_unfolding_all rfl); k_whole) | (refine' nt_itemK ?X ?F ?hl ?k2 ?k3 ?k4 ?_ ?k6 ?k7; (case F => k_asm); (case X => k_asm); (case hl => k_is); (case k2 => decide); (case k3 => decide); (case k4 => exact rfl); (case k6 => with_unfolding_all rfl); (case k7 => intro _; with_unfolding_all rfl); k_whole) | (refine' nt_itemT ?N ?hm ?k2 ?k3 ?k4 ?_ ?k6 ?k7; (case N => k_asm); (case hm => k_mem); (case k2 => decide); (case k3 => decide); (case k4 => exact rfl); (case k6 => with_unfolding_all rfl); (case k7 => intro _; with_unfolding_all rfl); k_whole)))
  k_with "subscriptTail Attribute Name Name ref int" => (k_here; (with_reducible show wpAny _ _ (subscriptTail _ _ (Value.ref _) (Value.int _ _)) _ _ _); k_dflt (first | (refine' nt_item ?N ?hm ?k2 ?k3 ?k4 ?_ ?k6; (case N => k_asm); (case hm => k_mem); (case k2 => decide); (case k3 => decide); (case k4 => exact rfl); (case k6 => with_unfolding_all rfl); k_whole) | (refine' nt_itemK ?X ?F ?hl ?k2 ?k3 ?k4 ?_ ?k6 ?k7; (case F => k_asm); (case X => k_asm); (case hl => k_is); (case k2 => decide); (case k3 => decide); (case k4 => exact rfl); (case k6 => with_unfolding_all rfl); (case k7 => intro _; with_unfolding_all rfl); k_whole) | (refine' nt_itemT ?N ?hm ?k2 ?k3 ?k4 ?_ ?k6 ?k7; (case N => k_asm); (case hm => k_mem); (case k2 => decide); (case k3 => decide); (case k4 => exact rfl); (case k6 => with_unfolding_all rfl); (case k7 => intro _; with_unfolding_all rfl); k_whole)))
  k_with "subscriptTail Subscript Name ref int" => (k_here; (with_reducible show wpAny _ _ (subscriptTail _ _ (Value.ref _) (Value.int _ _)) _ _ _); k_dflt (first | (refine' nt_item ?N ?hm ?k2 ?k3 ?k4 ?_ ?k6; (case N => k_asm); (case hm => k_mem); (case k2 => decide); (case k3 => decide); (case k4 => exact rfl); (case k6 => with_unfolding_all rfl); k_whole) | (refine' nt_itemK ?X ?F ?hl ?k2 ?k3 ?k4 ?_ ?k6 ?k7; (case F => k_asm); (case X => k_asm); (case hl => k_is); (case k2 => decide); (case k3 => decide); (case k4 => exact rfl); (case k6 => with_unfolding_all rfl); (case k7 => intro _; with_unfolding_all rfl); k_whole) | (refine' nt_itemT ?N ?hm ?k2 ?k3 ?k4 ?_ ?k6 ?k7; (case N => k_asm); (case hm => k_mem); (case k2 => decide); (case k3 => decide); (case k4 => exact rfl); (case k6 => with_unfolding_all rfl); (case k7 => intro _; with_unfolding_all rfl); k_whole)))
  k_with "subscriptTail Subscript Constant ref int" => (k_here; (with_reducible show wpAny _ _ (subscriptTail _ _ (Value.ref _) (Value.int _ _)) _ _ _); k_dflt (first | (refine' nt_item ?N ?hm ?k2 ?k3 ?k4 ?_ ?k6; (case N => k_asm); (case hm => k_mem); (case k2 => decide); (case k3 => decide); (case k4 => exact rfl); (case k6 => with_unfolding_all rfl); k_whole) | (refine' nt_itemK ?X ?F ?hl ?k2 ?k3 ?k4 ?_ ?k6 ?k7; (case F => k_asm); (case X => k_asm); (case hl => k_is); (case k2 => decide); (case k3 => decide); (case k4 => exact rfl); (case k6 => with_unfolding_all rfl); (case k7 => intro _; with_unfolding_all rfl); k_whole) | (refine' nt_itemT ?N ?hm ?k2 ?k3 ?k4 ?_ ?k6 ?k7; (case N => k_asm); (case hm => k_mem); (case k2 => decide); (case k3 => decide); (case k4 => exact rfl); (case k6 => with_unfolding_all rfl); (case k7 => intro _; with_unfolding_all rfl); k_whole)))
  k_with "setItem ref int" => (k_here; k_dflt (refine' ki_set ?F ?N ?k2 ?k3 ?k4 ?U ?_; (case F => k_asm); (case N => k_asm); (case U => k_upd); (case k2 => decide); (case k3 => decide); (case k4 => exact rfl); k_whole); intro h' F' N'; (try k_sweep))
  k_with "eval Name" => (k_here; (with_reducible show wpAny _ _ (eval (Expr.Name _ _) (envOf _ _ _ _ _)) _ _ _); (with_reducible rename Fr _ _ _ _ => kF); k_dflt (first | (name_kind "local"; (refine' ld kF ?k2 ?_ ?a ?b ?c; (case k2 => exact rfl); (case a => kernel_rfl!); (case b => kernel_rfl!); (case c => decide +kernel)); k_whole) | (name_kind "globalImplicit"; (refine' name_K kF ?k1 ?k2 ?k3 ?_ ?a ?b ?c; (case k1 => k_asm); (case k2 => k_asm); (case k3 => k_is); (case a => kernel_rfl!); (case b => kernel_rfl!); (case c => decide +kernel); k_whole)) | (refine' name_B kF ?k1 ?k2 ?k3 ?k4 ?k5 ?_; (case k1 => k_asm); (case k2 => k_asm); (case k3 => k_is); (case k4 => boot_by_name); (case k5 => decide); k_whole)))
  k_with "compareOp NotEq ref ref" => (k_here; k_dflt (refine' nt_ne ?ra ?rb ?e ?sh ?mx ?hu ?_; (case ra => (repeat' (first | exact ReadsAll.nil | refine ReadsAll.cons ?_ ?_ | exact Reads.int _ _ | exact Reads.str _ _ | exact Reads.bool _ | (refine' nt_rlist ?N9 ?m9 ?_; (case N9 => k_asm); (case m9 => k_mem)) | (refine' nt_rtup ?N9 ?m9 ?_; (case N9 => k_asm); (case m9 => k_mem))))); (case rb => (repeat' (first | exact ReadsAll.nil | refine ReadsAll.cons ?_ ?_ | exact Reads.int _ _ | exact Reads.str _ _ | exact Reads.bool _ | (refine' nt_rlist ?N9 ?m9 ?_; (case N9 => k_asm); (case m9 => k_mem)) | (refine' nt_rtup ?N9 ?m9 ?_; (case N9 => k_asm); (case m9 => k_mem))))); (case e => first | rfl | ((try simp only [PyData.list.injEq, PyData.tuple.injEq, PyData.int.injEq, PyData.str.injEq, List.cons.injEq, and_true, true_and]); first | rfl | omega | ((repeat' (refine And.intro ?_ ?_)) <;> first | rfl | omega))); (case sh => first | decide | (simp [shaped, PyData.canLay0, PyData.canLayAll0, PyData.depth, PyData.depthAll]; done)); (case mx => first | decide | (simp [noMix, noMixAll]; done)); (case hu => units_room)))
  k_with "compareOp Eq ref ref" => (k_here; k_dflt (refine' nt_eq ?ra ?rb ?e ?sh ?mx ?hu ?_; (case ra => (repeat' (first | exact ReadsAll.nil | refine ReadsAll.cons ?_ ?_ | exact Reads.int _ _ | exact Reads.str _ _ | exact Reads.bool _ | (refine' nt_rlist ?N9 ?m9 ?_; (case N9 => k_asm); (case m9 => k_mem)) | (refine' nt_rtup ?N9 ?m9 ?_; (case N9 => k_asm); (case m9 => k_mem))))); (case rb => (repeat' (first | exact ReadsAll.nil | refine ReadsAll.cons ?_ ?_ | exact Reads.int _ _ | exact Reads.str _ _ | exact Reads.bool _ | (refine' nt_rlist ?N9 ?m9 ?_; (case N9 => k_asm); (case m9 => k_mem)) | (refine' nt_rtup ?N9 ?m9 ?_; (case N9 => k_asm); (case m9 => k_mem))))); (case e => first | rfl | ((try simp only [PyData.list.injEq, PyData.tuple.injEq, PyData.int.injEq, PyData.str.injEq, List.cons.injEq, and_true, true_and]); first | rfl | omega | ((repeat' (refine And.intro ?_ ?_)) <;> first | rfl | omega))); (case sh => first | decide | (simp [shaped, PyData.canLay0, PyData.canLayAll0, PyData.depth, PyData.depthAll]; done)); (case mx => first | decide | (simp [noMix, noMixAll]; done)); (case hu => units_room)))
  k_with "eval Call" => ((with_reducible show wpAny _ _ (eval (Expr.Call (Expr.Name _ _) _ [] _) (envOf _ _ _ _ _)) _ _ _); k_dflt (refine Call_ ?_))
  k_with "call ref" => (k_here; (with_reducible show wpAny _ _ (call (Value.ref 147) _) _ _ _); k_dflt (refine' Con.use (c_mid _ _ _ _ ?hp) ?B ?F ?X ?N ?T ?hk ?hd ?hu ?_; (case F => k_asm); (case N => k_asm); (case hp => first | assumption | omega); (case T => k_asm); (case X => k_asm); (case B => k_asm); (case hk => first | exact rfl | assumption); (case hd => ktr_room); (case hu => ktr_units); k_whole); intro M' t' h' tk' hM' hM1' hM2' F' N'; (try k_sweep))
  k_with "call ref" => (k_here; (with_reducible show wpAny _ _ (call (Value.ref 140) _) _ _ _); k_dflt (refine' Con.use (c_most _ _ _ _ ?hp) ?B ?F ?X ?N ?T ?hk ?hd ?hu ?_; (case F => k_asm); (case N => k_asm); (case hp => first | assumption | omega); (case T => k_asm); (case X => k_asm); (case B => k_asm); (case hk => first | exact rfl | assumption); (case hd => ktr_room); (case hu => ktr_units); k_whole); intro M' t' h' tk' hM' hM1' hM2' F' N'; (try k_sweep))
  k_with "call ref" => (k_here; (with_reducible show wpAny _ _ (call (Value.ref 154) _) _ _ _); k_dflt (refine' Con.use (c_clamp _ _ _ _ _ _) ?B ?F ?X ?N ?T ?hk ?hd ?hu ?_; (case F => k_asm); (case N => k_asm); (case T => k_asm); (case X => k_asm); (case B => k_asm); (case hk => first | exact rfl | assumption); (case hd => ktr_room); (case hu => ktr_units); k_whole); intro x' t' h' tk' hX' F' N'; (try k_sweep))
  unfold Con
  k_fill
  intro mean mg mb dp un gd cn cs a ccd cl outer A₀ base h₀ L m s Q E B F X N T hk hd hu hret
  refine wpAny_call ?_
  k_dflt k_enter
  k_steps
  rename_i l1 kF kN Tc kX
  refine' hret _ _ _ _ _ _ _ _ _ _ ?_ ?_ ?_ ?F ?N ?l
  case F => exact kF
  case N => refine' nt_drop kN ?P ?S; (case P => repeat' (first | exact Pick.head | refine' Pick.tail ?_)); (case S => (intro p hp; repeat' (first | exact hp | refine List.Mem.tail _ ?_)))
  case l => exact allLt_of l1
  · unfold fY; rw [fd16]
  · (rename _ = mid p => hM); rw [fd16, p16, hM]; rfl
  · (rename _ = mid p => hM); rw [fd16, p16, hM]; rfl
theorem c_rgb (w : World) (news : Led) (y cb cr p : Int) (t1 t2 t3 t4 : Tok) (hp : 2 ≤ p ∧ p ≤ 8) (hr : 0 ≤ y ∧ y ≤ 255) (hg : 0 ≤ cb ∧ cb ≤ 255) (hb : 0 ≤ cr ∧ cr ≤ 255) :
   Con w 183 [.int y t1, .int cb t2, .int cr t3, .int p t4] news 2 (fun h₀ L m Q => ∀ (D : Addr) (r g b : Int) (ty tb tr : Tok) (c : Nat) (h' : Heap) (tk' : Nat), r = fR (mid p) y cb cr → g = fG (mid p) y cb cr → b = fB (mid p) y cb cr → Fr h₀ L h' m → News h₀ L h' ((D, tupOf #[.int r ty, .int g tb, .int b tr] c) :: news) → AllLt D news → Q (.ref D) h' tk') := by
  unfold Con
  k_fill
  intro mean mg mb dp un gd cn cs a ccd cl outer A₀ base h₀ L m s Q E B F X N T hk hd hu hret
  refine wpAny_call ?_
  k_dflt k_enter
  k_steps
  rename_i l1 kF kN Tc kX
  refine' hret _ _ _ _ _ _ _ _ _ _ ?_ ?_ ?_ ?F ?N ?l
  case F => exact kF
  case N => refine' nt_drop kN ?P ?S; (case P => repeat' (first | exact Pick.head | refine' Pick.tail ?_)); (case S => (intro p hp; repeat' (first | exact hp | refine List.Mem.tail _ ?_)))
  case l => exact l1.2.2
  all_goals ((rename _ = mid p => hM); (rename _ = 2 * mid p - 1 => hQ); subst hM hQ; (first | unfold fR | unfold fG | unfold fB); rw [← fd16]; assumption)
end
-- NtWithin
section
open PySem PySem.W PySem.Spec PySem.Calls PyProof.Rows PySem.SeqAt
theorem c_within (w : World) (news : Led) (x y q : Int) (t1 t2 t3 : Tok) (h1 : -q ≤ x - y) (h2 : x - y ≤ q) :
   Con w 294 [.int x t1, .int y t2, .int q t3] news 1 (fun h₀ L m Q => ∀ (h' : Heap) (tk' : Nat), Fr h₀ L h' m → News h₀ L h' news → Q (.bool true) h' tk') := by
  w_top off
  k_with_none
  k_with "k_room" => skip
  k_with "units_room" => skip
  k_with "k_all" => ((with_reducible rename AllLt _ _ => hx9); first | exact allLt_ne hx9 (by (try dsimp only); omega) | (clear hx9; k_all))
  k_with "k_all" => first | assumption | exact off1_all (by assumption) | ((with_reducible rename _ ∧ AllLt _ _ => hx9); first | exact allLt_ne hx9.2 (by (try dsimp only); omega) | (clear hx9; k_all))
  k_with "k_all" => first | assumption | exact off1_all (by assumption)
  k_with "k_mem" => assumption
  k_with "lcg_off" => first | exact True.intro | assumption | (refine And.intro (by first | assumption | exact ⟨by k_ne, by k_ne, by k_ne⟩) ?_; lcg_off)
  k_with "k_enter" => skip
  k_with "CompEnd" => (refine' nt_compEnd ?F ?N ?P1 ?P2 ?P3 ?off ?S ?_; (case F => assumption); (case N => assumption); (case P1 => repeat' (first | exact Pick.head | refine' Pick.tail ?_)); (case P2 => repeat' (first | exact Pick.head | refine' Pick.tail ?_)); (case P3 => repeat' (first | exact Pick.head | refine' Pick.tail ?_)); (case off => lcg_off); (case S => first | lcg_src | assumption))
  k_with "eval ListComp" => (k_here; k_dflt (refine LCg.ListComp_U (F₀ := by k_asm) (by with_unfolding_all rfl) (by decide) (by rfl) (by decide) (by rfl) ?_))
  k_with "exec Assign cons ListComp" => (k_here; k_dflt (refine LCg.Assign_ListComp_U (F₀ := by k_asm) (by rfl) (by with_unfolding_all rfl) (by with_unfolding_all rfl) (by decide) (by rfl) (by decide) (by rfl) (by rfl) (by rfl) ?_))
  k_with "eval ListComp" => (k_here; k_dflt (refine LCt.ListComp_T (F₀ := by k_asm) (by with_unfolding_all rfl) (by decide) (by rfl) (by decide) (by rfl) ?_))
  k_with "CompSrcT" => (k_here; k_dflt (first | (refine LCt.CompSrcT.ledger (by rfl) (by k_asm) (by k_asm) (by k_mem) (by first | size_fits | exact Nat.le_of_ble_eq_true rfl) ?_; intro g'; lct_lit) | (refine LCt.CompSrcT.range (by rfl) (by k_asm) (by k_asm) (by assumption) (by first | decide | rfl) (by first | rfl | decide) (by first | size_fits | exact Nat.le_of_ble_eq_true rfl) ?_; intro g'; lct_lit)))
  k_with "CompRestT" => (with_unfolding_all first | (refine LCt.CompRestT.succ ?_; intro v' I' oI' C' oC' D' m' h' tk' E' hv' hC' hx' F' N' off' ne'; (first | lcg_open hv' | (obtain ⟨t9', hv9'⟩ := hv'; subst hv9')); (repeat (obtain ⟨ho', off'⟩ := off'))) | refine LCt.CompRestT.zero ?_)
  k_with "CompSrc" => (k_here; k_dflt (first | (refine LCg.CompSrc.ledger (by rfl) (by k_asm) (by k_asm) (by k_mem) (by first | size_fits | exact Nat.le_of_ble_eq_true rfl) ?_; intro g'; lcg_lit) | (refine LCg.CompSrc.range (by rfl) (by k_asm) (by k_asm) (by assumption) (by first | decide | rfl) (by first | rfl | decide) (by first | size_fits | exact Nat.le_of_ble_eq_true rfl) ?_; intro g'; lcg_lit)))
  k_with "CompRest" => (with_unfolding_all first | (refine LCg.CompRest.succ ?_; intro v' I' oI' C' oC' D' m' h' tk' E' hv' hC' hx' F' N' off' ne'; (first | lcg_open hv' | (obtain ⟨t9', hv9'⟩ := hv'; subst hv9')); (repeat (obtain ⟨ho', off'⟩ := off'))) | refine LCg.CompRest.zero ?_)
  k_with "execs cons" => ((with_reducible refine gen_toks (fun tk => ?_)); (with_reducible refine wpAny_execs_cons ?_); (try dsimp only); (try k_fold))
  k_with "subscriptTail" => (k_here; (with_reducible show wpAny _ _ (subscriptTail _ _ (Value.ref _) (Value.int _ _)) _ _ _); k_dflt (first | (refine' nt_item ?N ?hm ?k2 ?k3 ?k4 ?_ ?k6; (case N => k_asm); (case hm => k_mem); (case k2 => decide); (case k3 => decide); (case k4 => exact rfl); (case k6 => with_unfolding_all rfl); k_whole) | (refine' nt_itemK ?X ?F ?hl ?k2 ?k3 ?k4 ?_ ?k6 ?k7; (case F => k_asm); (case X => k_asm); (case hl => k_is); (case k2 => decide); (case k3 => decide); (case k4 => exact rfl); (case k6 => with_unfolding_all rfl); (case k7 => intro _; with_unfolding_all rfl); k_whole) | (refine' nt_itemT ?N ?hm ?k2 ?k3 ?k4 ?_ ?k6 ?k7; (case N => k_asm); (case hm => k_mem); (case k2 => decide); (case k3 => decide); (case k4 => exact rfl); (case k6 => with_unfolding_all rfl); (case k7 => intro _; with_unfolding_all rfl); k_whole)))
  k_with "subscriptTail Name Constant ref int" => (k_here; (with_reducible show wpAny _ _ (subscriptTail _ _ (Value.ref _) (Value.int _ _)) _ _ _); k_dflt (first | (refine' nt_item ?N ?hm ?k2 ?k3 ?k4 ?_ ?k6; (case N => k_asm); (case hm => k_mem); (case k2 => decide); (case k3 => decide); (case k4 => exact rfl); (case k6 => with_unfolding_all rfl); k_whole) | (refine' nt_itemK ?X ?F ?hl ?k2 ?k3 ?k4 ?_ ?k6 ?k7; (case F => k_asm); (case X => k_asm); (case hl => k_is); (case k2 => decide); (case k3 => decide); (case k4 => exact rfl); (case k6 => with_unfolding_all rfl); (case k7 => intro _; with_unfolding_all rfl); k_whole) | (refine' nt_itemT ?N ?hm ?k2 ?k3 ?k4 ?_ ?k6 ?k7; (case N => k_asm); (case hm => k_mem); (case k2 => decide); (case k3 => decide); (case k4 => exact rfl); (case k6 => with_unfolding_all rfl); (case k7 => intro _; with_unfolding_all rfl); k_whole)))
  k_with "subscriptTail Name Name ref int" => (k_here; (with_reducible show wpAny _ _ (subscriptTail _ _ (Value.ref _) (Value.int _ _)) _ _ _); k_dflt (first | (refine' nt_item ?N ?hm ?k2 ?k3 ?k4 ?_ ?k6; (case N => k_asm); (case hm => k_mem); (case k2 => decide); (case k3 => decide); (case k4 => exact rfl); (case k6 => with_unfolding_all rfl); k_whole) | (refine' nt_itemK ?X ?F ?hl ?k2 ?k3 ?k4 ?_ ?k6 ?k7; (case F => k_asm); (case X => k_asm); (case hl => k_is); (case k2 => decide); (case k3 => decide); (case k4 => exact rfl); (case k6 => with_unfolding_all rfl); (case k7 => intro _; with_unfolding_all rfl); k_whole) | (refine' nt_itemT ?N ?hm ?k2 ?k3 ?k4 ?_ ?k6 ?k7; (case N => k_asm); (case hm => k_mem); (case k2 => decide); (case k3 => decide); (case k4 => exact rfl); (case k6 => with_unfolding_all rfl); (case k7 => intro _; with_unfolding_all rfl); k_whole)))
  k_with "subscriptTail Attribute Name Constant ref int" => (k_here; (with_reducible show wpAny _ _ (subscriptTail _ _ (Value.ref _) (Value.int _ _)) _ _ _); k_dflt (first | (refine' nt_item ?N ?hm ?k2 ?k3 ?k4 ?_ ?k6; (case N => k_asm); (case hm => k_mem); (case k2 => decide); (case k3 => decide); (case k4 => exact rfl); (case k6 => with_unfolding_all rfl); k_whole) | (refine' nt_itemK ?X ?F ?hl ?k2 ?k3 ?k4 ?_ ?k6 ?k7; (case F => k_asm); (case X => k_asm); (case hl => k_is); (case k2 => decide); (case k3 => decide); (case k4 => exact rfl); (case k6 => with_unfolding_all rfl); (case k7 => intro _; with_unfolding_all rfl); k_whole) | (refine' nt_itemT ?N ?hm ?k2 ?k3 ?k4 ?_ ?k6 ?k7; (case N => k_asm); (case hm => k_mem); (case k2 => decide); (case k3 => decide); (case k4 => exact rfl); (case k6 => with_unfolding_all rfl); (case k7 => intro _; with_unfolding_all rfl); k_whole)))
  k_with "subscriptTail Attribute Name Name ref int" => (k_here; (with_reducible show wpAny _ _ (subscriptTail _ _ (Value.ref _) (Value.int _ _)) _ _ _); k_dflt (first | (refine' nt_item ?N ?hm ?k2 ?k3 ?k4 ?_ ?k6; (case N => k_asm); (case hm => k_mem); (case k2 => decide); (case k3 => decide); (case k4 => exact rfl); (case k6 => with_unfolding_all rfl); k_whole) | (refine' nt_itemK ?X ?F ?hl ?k2 ?k3 ?k4 ?_ ?k6 ?k7; (case F => k_asm); (case X => k_asm); (case hl => k_is); (case k2 => decide); (case k3 => decide); (case k4 => exact rfl); (case k6 => with_unfolding_all rfl); (case k7 => intro _; with_unfolding_all rfl); k_whole) | (refine' nt_itemT ?N ?hm ?k2 ?k3 ?k4 ?_ ?k6 ?k7; (case N => k_asm); (case hm => k_mem); (case k2 => decide); (case k3 => decide); (case k4 => exact rfl); (case k6 => with_unfolding_all rfl); (case k7 => intro _; with_unfolding_all rfl); k_whole)))
  k_with "subscriptTail Subscript Name ref int" => (k_here; (with_reducible show wpAny _ _ (subscriptTail _ _ (Value.ref _) (Value.int _ _)) _ _ _); k_dflt (first | (refine' nt_item ?N ?hm ?k2 ?k3 ?k4 ?_ ?k6; (case N => k_asm); (case hm => k_mem); (case k2 => decide); (case k3 => decide); (case k4 => exact rfl); (case k6 => with_unfolding_all rfl); k_whole) | (refine' nt_itemK ?X ?F ?hl ?k2 ?k3 ?k4 ?_ ?k6 ?k7; (case F => k_asm); (case X => k_asm); (case hl => k_is); (case k2 => decide); (case k3 => decide); (case k4 => exact rfl); (case k6 => with_unfolding_all rfl); (case k7 => intro _; with_unfolding_all rfl); k_whole) | (refine' nt_itemT ?N ?hm ?k2 ?k3 ?k4 ?_ ?k6 ?k7; (case N => k_asm); (case hm => k_mem); (case k2 => decide); (case k3 => decide); (case k4 => exact rfl); (case k6 => with_unfolding_all rfl); (case k7 => intro _; with_unfolding_all rfl); k_whole)))
  k_with "subscriptTail Subscript Constant ref int" => (k_here; (with_reducible show wpAny _ _ (subscriptTail _ _ (Value.ref _) (Value.int _ _)) _ _ _); k_dflt (first | (refine' nt_item ?N ?hm ?k2 ?k3 ?k4 ?_ ?k6; (case N => k_asm); (case hm => k_mem); (case k2 => decide); (case k3 => decide); (case k4 => exact rfl); (case k6 => with_unfolding_all rfl); k_whole) | (refine' nt_itemK ?X ?F ?hl ?k2 ?k3 ?k4 ?_ ?k6 ?k7; (case F => k_asm); (case X => k_asm); (case hl => k_is); (case k2 => decide); (case k3 => decide); (case k4 => exact rfl); (case k6 => with_unfolding_all rfl); (case k7 => intro _; with_unfolding_all rfl); k_whole) | (refine' nt_itemT ?N ?hm ?k2 ?k3 ?k4 ?_ ?k6 ?k7; (case N => k_asm); (case hm => k_mem); (case k2 => decide); (case k3 => decide); (case k4 => exact rfl); (case k6 => with_unfolding_all rfl); (case k7 => intro _; with_unfolding_all rfl); k_whole)))
  k_with "setItem ref int" => (k_here; k_dflt (refine' ki_set ?F ?N ?k2 ?k3 ?k4 ?U ?_; (case F => k_asm); (case N => k_asm); (case U => k_upd); (case k2 => decide); (case k3 => decide); (case k4 => exact rfl); k_whole); intro h' F' N'; (try k_sweep))
  k_with "eval Name" => (k_here; (with_reducible show wpAny _ _ (eval (Expr.Name _ _) (envOf _ _ _ _ _)) _ _ _); (with_reducible rename Fr _ _ _ _ => kF); k_dflt (first | (name_kind "local"; (refine' ld kF ?k2 ?_ ?a ?b ?c; (case k2 => exact rfl); (case a => kernel_rfl!); (case b => kernel_rfl!); (case c => decide +kernel)); k_whole) | (name_kind "globalImplicit"; (refine' name_K kF ?k1 ?k2 ?k3 ?_ ?a ?b ?c; (case k1 => k_asm); (case k2 => k_asm); (case k3 => k_is); (case a => kernel_rfl!); (case b => kernel_rfl!); (case c => decide +kernel); k_whole)) | (refine' name_B kF ?k1 ?k2 ?k3 ?k4 ?k5 ?_; (case k1 => k_asm); (case k2 => k_asm); (case k3 => k_is); (case k4 => boot_by_name); (case k5 => decide); k_whole)))
  k_with "compareOp NotEq ref ref" => (k_here; k_dflt (first | (with_reducible refine' ne_t3 ?N ?ha ?hb ?e1 ?e2 ?e3 ?hu ?_; (case N => k_asm); (case ha => k_mem); (case hb => k_mem); (case e1 => first | rfl | assumption | omega); (case e2 => first | rfl | assumption | omega); (case e3 => first | rfl | assumption | omega); (case hu => units_room)) | (with_reducible refine' ne_l3 ?N ?ha ?hb ?e1 ?e2 ?e3 ?hu ?_; (case N => k_asm); (case ha => k_mem); (case hb => k_mem); (case e1 => first | rfl | assumption | omega); (case e2 => first | rfl | assumption | omega); (case e3 => first | rfl | assumption | omega); (case hu => units_room)) | (with_reducible refine' ne_l0 ?N ?ha ?hb ?hu ?_; (case N => k_asm); (case ha => k_mem); (case hb => k_mem); (case hu => units_room))))
  k_with "compareOp Eq ref ref" => (k_here; k_dflt ((with_reducible refine' eq_l0 ?N ?ha ?hb ?hu ?_; (case N => k_asm); (case ha => k_mem); (case hb => k_mem); (case hu => units_room))))
  k_with "eval Call" => ((with_reducible show wpAny _ _ (eval (Expr.Call (Expr.Name _ _) _ [] _) (envOf _ _ _ _ _)) _ _ _); k_dflt (refine Call_ ?_))
  k_with "call ref" => (k_here; (with_reducible show wpAny _ _ (call (Value.ref 147) _) _ _ _); k_dflt (refine' Con.use (c_mid _ _ _ _ ?hp) ?B ?F ?X ?N ?T ?hk ?hd ?hu ?_; (case F => k_asm); (case N => k_asm); (case hp => first | assumption | omega); (case T => k_asm); (case X => k_asm); (case B => k_asm); (case hk => first | exact rfl | assumption); (case hd => ktr_room); (case hu => ktr_units); k_whole); intro M' t' h' tk' hM' hM1' hM2' F' N'; (try k_sweep))
  k_with "call ref" => (k_here; (with_reducible show wpAny _ _ (call (Value.ref 140) _) _ _ _); k_dflt (refine' Con.use (c_most _ _ _ _ ?hp) ?B ?F ?X ?N ?T ?hk ?hd ?hu ?_; (case F => k_asm); (case N => k_asm); (case hp => first | assumption | omega); (case T => k_asm); (case X => k_asm); (case B => k_asm); (case hk => first | exact rfl | assumption); (case hd => ktr_room); (case hu => ktr_units); k_whole); intro M' t' h' tk' hM' hM1' hM2' F' N'; (try k_sweep))
  k_with "call ref" => (k_here; (with_reducible show wpAny _ _ (call (Value.ref 154) _) _ _ _); k_dflt (refine' Con.use (c_clamp _ _ _ _ _ _) ?B ?F ?X ?N ?T ?hk ?hd ?hu ?_; (case F => k_asm); (case N => k_asm); (case T => k_asm); (case X => k_asm); (case B => k_asm); (case hk => first | exact rfl | assumption); (case hd => ktr_room); (case hu => ktr_units); k_whole); intro x' t' h' tk' hX' F' N'; (try k_sweep))
  unfold Con
  k_fill
  intro mean mg mb dp un gd cn cs a ccd cl outer A₀ base h₀ L m s Q E B F X N T hk hd hu hret
  refine wpAny_call ?_
  k_dflt k_enter
  k_steps
  have e1 : decide ((if x - y < 0 then -(x - y) else x - y) ≤ q) = true := by (apply decide_eq_true; split <;> omega)
  rw [e1]
  refine' hret _ _ ?F ?N; (case F => assumption); (case N => assumption)
end
-- NtRight
section
open PySem PySem.W PySem.Spec PySem.Calls PyProof.Rows PySem.SeqAt
theorem c_right (w : World) (news : Led) (D : Addr) (r g b p : Int) (t1 t2 t3 t4 : Tok) (c : Nat) (hm : (D, listOf #[.int r t1, .int g t2, .int b t3] c) ∈ news) (hp : 2 ≤ p ∧ p ≤ 8) (hr : 0 ≤ r ∧ r ≤ 2 * mid p - 1) (hg : 0 ≤ g ∧ g ≤ 2 * mid p - 1) (hb : 0 ≤ b ∧ b ≤ 2 * mid p - 1) :
   Con w 299 [.ref D, .int p t4] news 20 (fun h₀ L m Q => ∀ (h' : Heap) (tk' : Nat), Fr h₀ L h' m → News h₀ L h' news → Q (.bool true) h' tk') := by
  w_top off
  k_with_none
  k_with "k_room" => skip
  k_with "units_room" => skip
  k_with "k_all" => ((with_reducible rename AllLt _ _ => hx9); first | exact allLt_ne hx9 (by (try dsimp only); omega) | (clear hx9; k_all))
  k_with "k_all" => first | assumption | exact off1_all (by assumption) | ((with_reducible rename _ ∧ AllLt _ _ => hx9); first | exact allLt_ne hx9.2 (by (try dsimp only); omega) | (clear hx9; k_all))
  k_with "k_all" => first | assumption | exact off1_all (by assumption)
  k_with "k_mem" => first | assumption | ((with_reducible (repeat' (first | exact List.mem_cons_self | assumption | refine List.mem_cons_of_mem _ ?_))); done)
  k_with "lcg_off" => first | exact True.intro | assumption | (refine And.intro (by first | assumption | exact ⟨by k_ne, by k_ne, by k_ne⟩) ?_; lcg_off)
  k_with "k_enter" => skip
  k_with "CompEnd" => (refine' nt_compEnd ?F ?N ?P1 ?P2 ?P3 ?off ?S ?_; (case F => assumption); (case N => assumption); (case P1 => repeat' (first | exact Pick.head | refine' Pick.tail ?_)); (case P2 => repeat' (first | exact Pick.head | refine' Pick.tail ?_)); (case P3 => repeat' (first | exact Pick.head | refine' Pick.tail ?_)); (case off => lcg_off); (case S => first | lcg_src | assumption))
  k_with "eval ListComp" => (k_here; k_dflt (refine LCg.ListComp_U (F₀ := by k_asm) (by with_unfolding_all rfl) (by decide) (by rfl) (by decide) (by rfl) ?_))
  k_with "exec Assign cons ListComp" => (k_here; k_dflt (refine LCg.Assign_ListComp_U (F₀ := by k_asm) (by rfl) (by with_unfolding_all rfl) (by with_unfolding_all rfl) (by decide) (by rfl) (by decide) (by rfl) (by rfl) (by rfl) ?_))
  k_with "eval ListComp" => (k_here; k_dflt (refine LCt.ListComp_T (F₀ := by k_asm) (by with_unfolding_all rfl) (by decide) (by rfl) (by decide) (by rfl) ?_))
  k_with "CompSrcT" => (k_here; k_dflt (first | (refine LCt.CompSrcT.ledger (by rfl) (by k_asm) (by k_asm) (by k_mem) (by first | size_fits | exact Nat.le_of_ble_eq_true rfl) ?_; intro g'; lct_lit) | (refine LCt.CompSrcT.range (by rfl) (by k_asm) (by k_asm) (by assumption) (by first | decide | rfl) (by first | rfl | decide) (by first | size_fits | exact Nat.le_of_ble_eq_true rfl) ?_; intro g'; lct_lit)))
  k_with "CompRestT" => (with_unfolding_all first | (refine LCt.CompRestT.succ ?_; intro v' I' oI' C' oC' D' m' h' tk' E' hv' hC' hx' F' N' off' ne'; (first | lcg_open hv' | (obtain ⟨t9', hv9'⟩ := hv'; subst hv9')); (repeat (obtain ⟨ho', off'⟩ := off'))) | refine LCt.CompRestT.zero ?_)
  k_with "CompSrc" => (k_here; k_dflt (first | (refine LCg.CompSrc.ledger (by rfl) (by k_asm) (by k_asm) (by k_mem) (by first | size_fits | exact Nat.le_of_ble_eq_true rfl) ?_; intro g'; lcg_lit) | (refine LCg.CompSrc.range (by rfl) (by k_asm) (by k_asm) (by assumption) (by first | decide | rfl) (by first | rfl | decide) (by first | size_fits | exact Nat.le_of_ble_eq_true rfl) ?_; intro g'; lcg_lit)))
  k_with "CompRest" => (with_unfolding_all first | (refine LCg.CompRest.succ ?_; intro v' I' oI' C' oC' D' m' h' tk' E' hv' hC' hx' F' N' off' ne'; (first | lcg_open hv' | (obtain ⟨t9', hv9'⟩ := hv'; subst hv9')); (repeat (obtain ⟨ho', off'⟩ := off'))) | refine LCg.CompRest.zero ?_)
  k_with "execs cons" => ((with_reducible refine gen_toks (fun tk => ?_)); (with_reducible refine wpAny_execs_cons ?_); (try dsimp only); (try k_fold))
  k_with "subscriptTail" => (k_here; (with_reducible show wpAny _ _ (subscriptTail _ _ (Value.ref _) (Value.int _ _)) _ _ _); k_dflt (first | (refine' nt_item ?N ?hm ?k2 ?k3 ?k4 ?_ ?k6; (case N => k_asm); (case hm => k_mem); (case k2 => decide); (case k3 => decide); (case k4 => exact rfl); (case k6 => with_unfolding_all rfl); k_whole) | (refine' nt_itemK ?X ?F ?hl ?k2 ?k3 ?k4 ?_ ?k6 ?k7; (case F => k_asm); (case X => k_asm); (case hl => k_is); (case k2 => decide); (case k3 => decide); (case k4 => exact rfl); (case k6 => with_unfolding_all rfl); (case k7 => intro _; with_unfolding_all rfl); k_whole) | (refine' nt_itemT ?N ?hm ?k2 ?k3 ?k4 ?_ ?k6 ?k7; (case N => k_asm); (case hm => k_mem); (case k2 => decide); (case k3 => decide); (case k4 => exact rfl); (case k6 => with_unfolding_all rfl); (case k7 => intro _; with_unfolding_all rfl); k_whole)))
  k_with "subscriptTail Name Constant ref int" => (k_here; (with_reducible show wpAny _ _ (subscriptTail _ _ (Value.ref _) (Value.int _ _)) _ _ _); k_dflt (first | (refine' nt_item ?N ?hm ?k2 ?k3 ?k4 ?_ ?k6; (case N => k_asm); (case hm => k_mem); (case k2 => decide); (case k3 => decide); (case k4 => exact rfl); (case k6 => with_unfolding_all rfl); k_whole) | (refine' nt_itemK ?X ?F ?hl ?k2 ?k3 ?k4 ?_ ?k6 ?k7; (case F => k_asm); (case X => k_asm); (case hl => k_is); (case k2 => decide); (case k3 => decide); (case k4 => exact rfl); (case k6 => with_unfolding_all rfl); (case k7 => intro _; with_unfolding_all rfl); k_whole) | (refine' nt_itemT ?N ?hm ?k2 ?k3 ?k4 ?_ ?k6 ?k7; (case N => k_asm); (case hm => k_mem); (case k2 => decide); (case k3 => decide); (case k4 => exact rfl); (case k6 => with_unfolding_all rfl); (case k7 => intro _; with_unfolding_all rfl); k_whole)))
  k_with "subscriptTail Name Name ref int" => (k_here; (with_reducible show wpAny _ _ (subscriptTail _ _ (Value.ref _) (Value.int _ _)) _ _ _); k_dflt (first | (refine' nt_item ?N ?hm ?k2 ?k3 ?k4 ?_ ?k6; (case N => k_asm); (case hm => k_mem); (case k2 => decide); (case k3 => decide); (case k4 => exact rfl); (case k6 => with_unfolding_all rfl); k_whole) | (refine' nt_itemK ?X ?F ?hl ?k2 ?k3 ?k4 ?_ ?k6 ?k7; (case F => k_asm); (case X => k_asm); (case hl => k_is); (case k2 => decide); (case k3 => decide); (case k4 => exact rfl); (case k6 => with_unfolding_all rfl); (case k7 => intro _; with_unfolding_all rfl); k_whole) | (refine' nt_itemT ?N ?hm ?k2 ?k3 ?k4 ?_ ?k6 ?k7; (case N => k_asm); (case hm => k_mem); (case k2 => decide); (case k3 => decide); (case k4 => exact rfl); (case k6 => with_unfolding_all rfl); (case k7 => intro _; with_unfolding_all rfl); k_whole)))
  k_with "subscriptTail Attribute Name Constant ref int" => (k_here; (with_reducible show wpAny _ _ (subscriptTail _ _ (Value.ref _) (Value.int _ _)) _ _ _); k_dflt (first | (refine' nt_item ?N ?hm ?k2 ?k3 ?k4 ?_ ?k6; (case N => k_asm); (case hm => k_mem); (case k2 => decide); (case k3 => decide); (case k4 => exact rfl); (case k6 => with_unfolding_all rfl); k_whole) | (refine' nt_itemK ?X ?F ?hl ?k2 ?k3 ?k4 ?_ ?k6 ?k7; (case F => k_asm); (case X => k_asm); (case hl => k_is); (case k2 => decide); (case k3 => decide); (case k4 => exact rfl); (case k6 => with_unfolding_all rfl); (case k7 => intro _; with_unfolding_all rfl); k_whole) | (refine' nt_itemT ?N ?hm ?k2 ?k3 ?k4 ?_ ?k6 ?k7; (case N => k_asm); (case hm => k_mem); (case k2 => decide); (case k3 => decide); (case k4 => exact rfl); (case k6 => with_unfolding_all rfl); (case k7 => intro _; with_unfolding_all rfl); k_whole)))
  k_with "subscriptTail Attribute Name Name ref int" => (k_here; (with_reducible show wpAny _ _ (subscriptTail _ _ (Value.ref _) (Value.int _ _)) _ _ _); k_dflt (first | (refine' nt_item ?N ?hm ?k2 ?k3 ?k4 ?_ ?k6; (case N => k_asm); (case hm => k_mem); (case k2 => decide); (case k3 => decide); (case k4 => exact rfl); (case k6 => with_unfolding_all rfl); k_whole) | (refine' nt_itemK ?X ?F ?hl ?k2 ?k3 ?k4 ?_ ?k6 ?k7; (case F => k_asm); (case X => k_asm); (case hl => k_is); (case k2 => decide); (case k3 => decide); (case k4 => exact rfl); (case k6 => with_unfolding_all rfl); (case k7 => intro _; with_unfolding_all rfl); k_whole) | (refine' nt_itemT ?N ?hm ?k2 ?k3 ?k4 ?_ ?k6 ?k7; (case N => k_asm); (case hm => k_mem); (case k2 => decide); (case k3 => decide); (case k4 => exact rfl); (case k6 => with_unfolding_all rfl); (case k7 => intro _; with_unfolding_all rfl); k_whole)))
  k_with "subscriptTail Subscript Name ref int" => (k_here; (with_reducible show wpAny _ _ (subscriptTail _ _ (Value.ref _) (Value.int _ _)) _ _ _); k_dflt (first | (refine' nt_item ?N ?hm ?k2 ?k3 ?k4 ?_ ?k6; (case N => k_asm); (case hm => k_mem); (case k2 => decide); (case k3 => decide); (case k4 => exact rfl); (case k6 => with_unfolding_all rfl); k_whole) | (refine' nt_itemK ?X ?F ?hl ?k2 ?k3 ?k4 ?_ ?k6 ?k7; (case F => k_asm); (case X => k_asm); (case hl => k_is); (case k2 => decide); (case k3 => decide); (case k4 => exact rfl); (case k6 => with_unfolding_all rfl); (case k7 => intro _; with_unfolding_all rfl); k_whole) | (refine' nt_itemT ?N ?hm ?k2 ?k3 ?k4 ?_ ?k6 ?k7; (case N => k_asm); (case hm => k_mem); (case k2 => decide); (case k3 => decide); (case k4 => exact rfl); (case k6 => with_unfolding_all rfl); (case k7 => intro _; with_unfolding_all rfl); k_whole)))
  k_with "subscriptTail Subscript Constant ref int" => (k_here; (with_reducible show wpAny _ _ (subscriptTail _ _ (Value.ref _) (Value.int _ _)) _ _ _); k_dflt (first | (refine' nt_item ?N ?hm ?k2 ?k3 ?k4 ?_ ?k6; (case N => k_asm); (case hm => k_mem); (case k2 => decide); (case k3 => decide); (case k4 => exact rfl); (case k6 => with_unfolding_all rfl); k_whole) | (refine' nt_itemK ?X ?F ?hl ?k2 ?k3 ?k4 ?_ ?k6 ?k7; (case F => k_asm); (case X => k_asm); (case hl => k_is); (case k2 => decide); (case k3 => decide); (case k4 => exact rfl); (case k6 => with_unfolding_all rfl); (case k7 => intro _; with_unfolding_all rfl); k_whole) | (refine' nt_itemT ?N ?hm ?k2 ?k3 ?k4 ?_ ?k6 ?k7; (case N => k_asm); (case hm => k_mem); (case k2 => decide); (case k3 => decide); (case k4 => exact rfl); (case k6 => with_unfolding_all rfl); (case k7 => intro _; with_unfolding_all rfl); k_whole)))
  k_with "setItem ref int" => (k_here; k_dflt (refine' ki_set ?F ?N ?k2 ?k3 ?k4 ?U ?_; (case F => k_asm); (case N => k_asm); (case U => k_upd); (case k2 => decide); (case k3 => decide); (case k4 => exact rfl); k_whole); intro h' F' N'; (try k_sweep))
  k_with "eval Name" => (k_here; (with_reducible show wpAny _ _ (eval (Expr.Name _ _) (envOf _ _ _ _ _)) _ _ _); (with_reducible rename Fr _ _ _ _ => kF); k_dflt (first | (name_kind "local"; (refine' ld kF ?k2 ?_ ?a ?b ?c; (case k2 => exact rfl); (case a => kernel_rfl!); (case b => kernel_rfl!); (case c => decide +kernel)); k_whole) | (name_kind "globalImplicit"; (refine' name_K kF ?k1 ?k2 ?k3 ?_ ?a ?b ?c; (case k1 => k_asm); (case k2 => k_asm); (case k3 => k_is); (case a => kernel_rfl!); (case b => kernel_rfl!); (case c => decide +kernel); k_whole)) | (refine' name_B kF ?k1 ?k2 ?k3 ?k4 ?k5 ?_; (case k1 => k_asm); (case k2 => k_asm); (case k3 => k_is); (case k4 => boot_by_name); (case k5 => decide); k_whole)))
  k_with "compareOp NotEq ref ref" => (k_here; k_dflt (first | (with_reducible refine' ne_t3 ?N ?ha ?hb ?e1 ?e2 ?e3 ?hu ?_; (case N => k_asm); (case ha => k_mem); (case hb => k_mem); (case e1 => first | assumption | exact (Grey.h (by assumption) (by assumption) (by assumption)).1 | exact (Grey2.h (by assumption) (by assumption) (by assumption)).1 | rfl); (case e2 => first | assumption | exact (Grey.h (by assumption) (by assumption) (by assumption)).2.1 | exact (Grey2.h (by assumption) (by assumption) (by assumption)).2.1 | rfl); (case e3 => first | assumption | exact (Grey.h (by assumption) (by assumption) (by assumption)).2.2 | exact (Grey2.h (by assumption) (by assumption) (by assumption)).2.2 | rfl); (case hu => units_room)) | (with_reducible refine' ne_l3 ?N ?ha ?hb ?e1 ?e2 ?e3 ?hu ?_; (case N => k_asm); (case ha => k_mem); (case hb => k_mem); (case e1 => first | assumption | exact (Grey.h (by assumption) (by assumption) (by assumption)).1 | exact (Grey2.h (by assumption) (by assumption) (by assumption)).1 | rfl); (case e2 => first | assumption | exact (Grey.h (by assumption) (by assumption) (by assumption)).2.1 | exact (Grey2.h (by assumption) (by assumption) (by assumption)).2.1 | rfl); (case e3 => first | assumption | exact (Grey.h (by assumption) (by assumption) (by assumption)).2.2 | exact (Grey2.h (by assumption) (by assumption) (by assumption)).2.2 | rfl); (case hu => units_room)) | (with_reducible refine' ne_l0 ?N ?ha ?hb ?hu ?_; (case N => k_asm); (case ha => k_mem); (case hb => k_mem); (case hu => units_room))))
  k_with "compareOp Eq ref ref" => (k_here; k_dflt ((with_reducible refine' eq_l0 ?N ?ha ?hb ?hu ?_; (case N => k_asm); (case ha => k_mem); (case hb => k_mem); (case hu => units_room))))
  k_with "eval Call" => ((with_reducible show wpAny _ _ (eval (Expr.Call (Expr.Name _ _) _ [] _) (envOf _ _ _ _ _)) _ _ _); k_dflt (refine Call_ ?_))
  k_with "call ref" => (k_here; (with_reducible show wpAny _ _ (call (Value.ref 147) _) _ _ _); k_dflt (refine' Con.use (c_mid _ _ _ _ ?hp) ?B ?F ?X ?N ?T ?hk ?hd ?hu ?_; (case F => k_asm); (case N => k_asm); (case hp => first | assumption | omega); (case T => k_asm); (case X => k_asm); (case B => k_asm); (case hk => first | exact rfl | assumption); (case hd => ktr_room); (case hu => ktr_units); k_whole); intro M' t' h' tk' hM' hM1' hM2' F' N'; (try k_sweep))
  k_with "call ref" => (k_here; (with_reducible show wpAny _ _ (call (Value.ref 140) _) _ _ _); k_dflt (refine' Con.use (c_most _ _ _ _ ?hp) ?B ?F ?X ?N ?T ?hk ?hd ?hu ?_; (case F => k_asm); (case N => k_asm); (case hp => first | assumption | omega); (case T => k_asm); (case X => k_asm); (case B => k_asm); (case hk => first | exact rfl | assumption); (case hd => ktr_room); (case hu => ktr_units); k_whole); intro M' t' h' tk' hM' hM1' hM2' F' N'; (try k_sweep))
  k_with "call ref" => (k_here; (with_reducible show wpAny _ _ (call (Value.ref 154) _) _ _ _); k_dflt (refine' Con.use (c_clamp _ _ _ _ _ _) ?B ?F ?X ?N ?T ?hk ?hd ?hu ?_; (case F => k_asm); (case N => k_asm); (case T => k_asm); (case X => k_asm); (case B => k_asm); (case hk => first | exact rfl | assumption); (case hd => ktr_room); (case hu => ktr_units); k_whole); intro x' t' h' tk' hX' F' N'; (try k_sweep))
  k_with "binaryOp Pow int int" => (k_here; k_dflt (first | (refine' nt_pow ?hp ?_; (case hp => first | assumption | omega)) | (refine' nt_pow1 ?hp ?_; (case hp => first | assumption | omega))))
  k_with "call ref" => (k_here; (with_reducible show wpAny _ _ (call (Value.ref 176) _) _ _ _); k_dflt (refine' Con.use (c_ycc _ _ _ _ _ _ _ _ _ _ ?hp ?hr ?hg ?hb) ?B ?F ?X ?N ?T ?hk ?hd ?hu ?_; (case F => k_asm); (case N => k_asm); (case hp => assumption); (case hr => omega); (case hg => omega); (case hb => omega); (case T => k_asm); (case X => k_asm); (case B => k_asm); (case hk => first | exact rfl | assumption); (case hd => ktr_room); (case hu => ktr_units); k_whole); intro D' y' cb' cr' ty' tb' tr' c' h' tk' hy' hcb' hcr' F' N' l1'; (try k_lt l1'); (try (have hYc : YccIs _ _ _ _ _ _ _ := ⟨by assumption, by assumption, by assumption, by assumption, hy', hcb', hcr'⟩; have hYk := hYc.ok; have hGy := Grey.of hYk; obtain ⟨yk1, yk2, yk3, yk4, yk5, yk6, yk7, yk8, yk9, yk10, yk11, yk12, -⟩ := hYk)); (try k_sweep))
  k_with "call ref" => (k_here; (with_reducible show wpAny _ _ (call (Value.ref 183) _) _ _ _); k_dflt (refine' Con.use (c_rgb _ _ _ _ _ _ _ _ _ _ ?hp ?hr ?hg ?hb) ?B ?F ?X ?N ?T ?hk ?hd ?hu ?_; (case F => k_asm); (case N => k_asm); (case hp => assumption); (case hr => omega); (case hg => omega); (case hb => omega); (case T => k_asm); (case X => k_asm); (case B => k_asm); (case hk => first | exact rfl | assumption); (case hd => ktr_room); (case hu => ktr_units); k_whole); intro D' y' cb' cr' ty' tb' tr' c' h' tk' hy' hcb' hcr' F' N' l1'; (try k_lt l1'); (try (have hBk := YccIs.back (by assumption) hy' hcb' hcr'; have hGb := Grey2.of hBk; obtain ⟨bk1, bk2, bk3, bk4, bk5, bk6, -⟩ := hBk)); (try k_sweep))
  k_with "call ref" => (k_here; (with_reducible show wpAny _ _ (call (Value.ref 294) _) _ _ _); k_dflt (refine' Con.use (c_within _ _ _ _ _ _ _ _ ?hw1 ?hw2) ?B ?F ?X ?N ?T ?hk ?hd ?hu ?_; (case F => k_asm); (case N => k_asm); (case hw1 => omega); (case hw2 => omega); (case T => k_asm); (case X => k_asm); (case B => k_asm); (case hk => first | exact rfl | assumption); (case hd => ktr_room); (case hu => ktr_units); k_whole); intro h' tk' F' N'; (try k_sweep))
  k_with "NoEnd" => (refine' NoEnd.intro ?F ?N; (case F => k_asm); (case N => k_asm))
  k_with "eval ListComp" => (k_here; (with_reducible show wpAny _ _ (eval (PySem.Expr.ListComp _ [⟨PySem.Expr.Tuple _ _ _, _, _, _⟩] _ _) _) _ _ _); k_dflt (refine' nt_near ?hh ?F ?N ?hm1 ?hm2 ?near ?hc ?c1 ?c2 ?c3 ?c4 ?c5 ?c6 ?hiter ?turn ?_; (case hh => exact rfl); (case F => k_asm); (case N => k_asm); (case hc => with_unfolding_all rfl); (case c1 => decide); (case c2 => rfl); (case c3 => decide); (case c4 => rfl); (case c5 => rfl); (case c6 => decide); (case hiter => (intro Q' hq'; repeat (first | with_reducible exact hq' | walk1 | (dsimp only; walk1)))); (case hm1 => k_mem); (case hm2 => k_mem); (case near => first | exact near33 (by omega) (by omega) (by omega) | exact near43 (by omega) (by omega) (by omega)); (case turn => (intro p' q' t' u' hpq1 hpq2 g'; unfold NoTurn; intro C' oC' m' h' tk' own' E' hC' ha' hb' F' N'; k_steps))); intro D' h' tk' F' N' l1'; (try k_lt l1'))
  unfold Con
  k_fill
  intro mean mg mb dp un gd cn cs a ccd cl outer A₀ base h₀ L m s Q E B F X N T hk hd hu hret
  have hMid := mid_le hp
  refine wpAny_call ?_
  k_dflt k_enter
  k_steps
  all_goals (refine' hret _ _ ?F ?N; (case F => assumption); (case N => (rename News h₀ L _ _ => hN; exact nt_sub hN (by intro q hq; k_mem))))
end
-- NtFour
section
open PySem PySem.W PySem.Spec PySem.Calls PyProof.Rows PySem.SeqAt
theorem c_ycck (w : World) (news : Led) (r g b k p : Int) (t1 t2 t3 t4 t5 : Tok) (hp : 2 ≤ p ∧ p ≤ 8) (hr : 0 ≤ r ∧ r ≤ 2 * mid p - 1) (hg : 0 ≤ g ∧ g ≤ 2 * mid p - 1) (hb : 0 ≤ b ∧ b ≤ 2 * mid p - 1) :
   Con w 190 [.int r t1, .int g t2, .int b t3, .int k t4, .int p t5] news 3 (fun h₀ L m Q => ∀ (D : Addr) (y cb cr : Int) (ty tb tr tk : Tok) (c : Nat) (h' : Heap) (tk' : Nat), y = fY (2 * mid p - 1 - r) (2 * mid p - 1 - g) (2 * mid p - 1 - b) → cb = fCb (mid p) (2 * mid p - 1 - r) (2 * mid p - 1 - g) (2 * mid p - 1 - b) → cr = fCr (mid p) (2 * mid p - 1 - r) (2 * mid p - 1 - g) (2 * mid p - 1 - b) →
     Fr h₀ L h' m → News h₀ L h' ((D, tupOf #[.int y ty, .int cb tb, .int cr tr, .int k tk] c) :: news) → AllLt D news → Q (.ref D) h' tk') := by
  w_top off
  k_with_none
  k_with "k_room" => skip
  k_with "units_room" => skip
  k_with "k_all" => ((with_reducible rename AllLt _ _ => hx9); first | exact allLt_ne hx9 (by (try dsimp only); omega) | (clear hx9; k_all))
  k_with "k_all" => first | assumption | exact off1_all (by assumption) | ((with_reducible rename _ ∧ AllLt _ _ => hx9); first | exact allLt_ne hx9.2 (by (try dsimp only); omega) | (clear hx9; k_all))
  k_with "k_all" => first | assumption | exact off1_all (by assumption)
  k_with "k_mem" => first | assumption | ((with_reducible (repeat' (first | exact List.mem_cons_self | assumption | refine List.mem_cons_of_mem _ ?_))); done)
  k_with "lcg_off" => first | exact True.intro | assumption | (refine And.intro (by first | assumption | exact ⟨by k_ne, by k_ne, by k_ne⟩) ?_; lcg_off)
  k_with "k_enter" => skip
  k_with "CompEnd" => (refine' nt_compEnd ?F ?N ?P1 ?P2 ?P3 ?off ?S ?_; (case F => assumption); (case N => assumption); (case P1 => repeat' (first | exact Pick.head | refine' Pick.tail ?_)); (case P2 => repeat' (first | exact Pick.head | refine' Pick.tail ?_)); (case P3 => repeat' (first | exact Pick.head | refine' Pick.tail ?_)); (case off => lcg_off); (case S => first | lcg_src | assumption))
  k_with "eval ListComp" => (k_here; k_dflt (refine LCg.ListComp_U (F₀ := by k_asm) (by with_unfolding_all rfl) (by decide) (by rfl) (by decide) (by rfl) ?_))
  k_with "exec Assign cons ListComp" => (k_here; k_dflt (refine LCg.Assign_ListComp_U (F₀ := by k_asm) (by rfl) (by with_unfolding_all rfl) (by with_unfolding_all rfl) (by decide) (by rfl) (by decide) (by rfl) (by rfl) (by rfl) ?_))
  k_with "eval ListComp" => (k_here; k_dflt (refine LCt.ListComp_T (F₀ := by k_asm) (by with_unfolding_all rfl) (by decide) (by rfl) (by decide) (by rfl) ?_))
  k_with "CompSrcT" => (k_here; k_dflt (first | (refine LCt.CompSrcT.ledger (by rfl) (by k_asm) (by k_asm) (by k_mem) (by first | size_fits | exact Nat.le_of_ble_eq_true rfl) ?_; intro g'; lct_lit) | (refine LCt.CompSrcT.range (by rfl) (by k_asm) (by k_asm) (by assumption) (by first | decide | rfl) (by first | rfl | decide) (by first | size_fits | exact Nat.le_of_ble_eq_true rfl) ?_; intro g'; lct_lit)))
  k_with "CompRestT" => (with_unfolding_all first | (refine LCt.CompRestT.succ ?_; intro v' I' oI' C' oC' D' m' h' tk' E' hv' hC' hx' F' N' off' ne'; (first | lcg_open hv' | (obtain ⟨t9', hv9'⟩ := hv'; subst hv9')); (repeat (obtain ⟨ho', off'⟩ := off'))) | refine LCt.CompRestT.zero ?_)
  k_with "CompSrc" => (k_here; k_dflt (first | (refine LCg.CompSrc.ledger (by rfl) (by k_asm) (by k_asm) (by k_mem) (by first | size_fits | exact Nat.le_of_ble_eq_true rfl) ?_; intro g'; lcg_lit) | (refine LCg.CompSrc.range (by rfl) (by k_asm) (by k_asm) (by assumption) (by first | decide | rfl) (by first | rfl | decide) (by first | size_fits | exact Nat.le_of_ble_eq_true rfl) ?_; intro g'; lcg_lit)))
  k_with "CompRest" => (with_unfolding_all first | (refine LCg.CompRest.succ ?_; intro v' I' oI' C' oC' D' m' h' tk' E' hv' hC' hx' F' N' off' ne'; (first | lcg_open hv' | (obtain ⟨t9', hv9'⟩ := hv'; subst hv9')); (repeat (obtain ⟨ho', off'⟩ := off'))) | refine LCg.CompRest.zero ?_)
  k_with "execs cons" => ((with_reducible refine gen_toks (fun tk => ?_)); (with_reducible refine wpAny_execs_cons ?_); (try dsimp only); (try k_fold))
  k_with "subscriptTail" => (k_here; (with_reducible show wpAny _ _ (subscriptTail _ _ (Value.ref _) (Value.int _ _)) _ _ _); k_dflt (first | (refine' nt_item ?N ?hm ?k2 ?k3 ?k4 ?_ ?k6; (case N => k_asm); (case hm => k_mem); (case k2 => decide); (case k3 => decide); (case k4 => exact rfl); (case k6 => with_unfolding_all rfl); k_whole) | (refine' nt_itemK ?X ?F ?hl ?k2 ?k3 ?k4 ?_ ?k6 ?k7; (case F => k_asm); (case X => k_asm); (case hl => k_is); (case k2 => decide); (case k3 => decide); (case k4 => exact rfl); (case k6 => with_unfolding_all rfl); (case k7 => intro _; with_unfolding_all rfl); k_whole) | (refine' nt_itemT ?N ?hm ?k2 ?k3 ?k4 ?_ ?k6 ?k7; (case N => k_asm); (case hm => k_mem); (case k2 => decide); (case k3 => decide); (case k4 => exact rfl); (case k6 => with_unfolding_all rfl); (case k7 => intro _; with_unfolding_all rfl); k_whole)))
  k_with "subscriptTail Name Constant ref int" => (k_here; (with_reducible show wpAny _ _ (subscriptTail _ _ (Value.ref _) (Value.int _ _)) _ _ _); k_dflt (first | (refine' nt_item ?N ?hm ?k2 ?k3 ?k4 ?_ ?k6; (case N => k_asm); (case hm => k_mem); (case k2 => decide); (case k3 => decide); (case k4 => exact rfl); (case k6 => with_unfolding_all rfl); k_whole) | (refine' nt_itemK ?X ?F ?hl ?k2 ?k3 ?k4 ?_ ?k6 ?k7; (case F => k_asm); (case X => k_asm); (case hl => k_is); (case k2 => decide); (case k3 => decide); (case k4 => exact rfl); (case k6 => with_unfolding_all rfl); (case k7 => intro _; with_unfolding_all rfl); k_whole) | (refine' nt_itemT ?N ?hm ?k2 ?k3 ?k4 ?_ ?k6 ?k7; (case N => k_asm); (case hm => k_mem); (case k2 => decide); (case k3 => decide); (case k4 => exact rfl); (case k6 => with_unfolding_all rfl); (case k7 => intro _; with_unfolding_all rfl); k_whole)))
  k_with "subscriptTail Name Name ref int" => (k_here; (with_reducible show wpAny _ _ (subscriptTail _ _ (Value.ref _) (Value.int _ _)) _ _ _); k_dflt (first | (refine' nt_item ?N ?hm ?k2 ?k3 ?k4 ?_ ?k6; (case N => k_asm); (case hm => k_mem); (case k2 => decide); (case k3 => decide); (case k4 => exact rfl); (case k6 => with_unfolding_all rfl); k_whole) | (refine' nt_itemK ?X ?F ?hl ?k2 ?k3 ?k4 ?_ ?k6 ?k7; (case F => k_asm); (case X => k_asm); (case hl => k_is); (case k2 => decide); (case k3 => decide); (case k4 => exact rfl); (case k6 => with_unfolding_all rfl); (case k7 => intro _; with_unfolding_all rfl); k_whole) | (refine' nt_itemT ?N ?hm ?k2 ?k3 ?k4 ?_ ?k6 ?k7; (case N => k_asm); (case hm => k_mem); (case k2 => decide); (case k3 => decide); (case k4 => exact rfl); (case k6 => with_unfolding_all rfl); (case k7 => intro _; with_unfolding_all rfl); k_whole)))
  k_with "subscriptTail Attribute Name Constant ref int" => (k_here; (with_reducible show wpAny _ _ (subscriptTail _ _ (Value.ref _) (Value.int _ _)) _ _ _); k_dflt (first | (refine' nt_item ?N ?hm ?k2 ?k3 ?k4 ?_ ?k6; (case N => k_asm); (case hm => k_mem); (case k2 => decide); (case k3 => decide); (case k4 => exact rfl); (case k6 => with_unfolding_all rfl); k_whole) | (refine' nt_itemK ?X ?F ?hl ?k2 ?k3 ?k4 ?_ ?k6 ?k7; (case F => k_asm); (case X => k_asm); (case hl => k_is); (case k2 => decide); (case k3 => decide); (case k4 => exact rfl); (case k6 => with_unfolding_all rfl); (case k7 => intro _; with_unfolding_all rfl); k_whole) | (refine' nt_itemT ?N ?hm ?k2 ?k3 ?k4 ?_ ?k6 ?k7; (case N => k_asm); (case hm => k_mem); (case k2 => decide); (case k3 => decide); (case k4 => exact rfl); (case k6 => with_unfolding_all rfl); (case k7 => intro _; with_unfolding_all rfl); k_whole)))
  k_with "subscriptTail Attribute Name Name ref int" => (k_here; (with_reducible show wpAny _ _ (subscriptTail _ _ (Value.ref _) (Value.int _ _)) _ _ _); k_dflt (first | (refine' nt_item ?N ?hm ?k2 ?k3 ?k4 ?_ ?k6; (case N => k_asm); (case hm => k_mem); (case k2 => decide); (case k3 => decide); (case k4 => exact rfl); (case k6 => with_unfolding_all rfl); k_whole) | (refine' nt_itemK ?X ?F ?hl ?k2 ?k3 ?k4 ?_ ?k6 ?k7; (case F => k_asm); (case X => k_asm); (case hl => k_is); (case k2 => decide); (case k3 => decide); (case k4 => exact rfl); (case k6 => with_unfolding_all rfl); (case k7 => intro _; with_unfolding_all rfl); k_whole) | (refine' nt_itemT ?N ?hm ?k2 ?k3 ?k4 ?_ ?k6 ?k7; (case N => k_asm); (case hm => k_mem); (case k2 => decide); (case k3 => decide); (case k4 => exact rfl); (case k6 => with_unfolding_all rfl); (case k7 => intro _; with_unfolding_all rfl); k_whole)))
  k_with "subscriptTail Subscript Name ref int" => (k_here; (with_reducible show wpAny _ _ (subscriptTail _ _ (Value.ref _) (Value.int _ _)) _ _ _); k_dflt (first | (refine' nt_item ?N ?hm ?k2 ?k3 ?k4 ?_ ?k6; (case N => k_asm); (case hm => k_mem); (case k2 => decide); (case k3 => decide); (case k4 => exact rfl); (case k6 => with_unfolding_all rfl); k_whole) | (refine' nt_itemK ?X ?F ?hl ?k2 ?k3 ?k4 ?_ ?k6 ?k7; (case F => k_asm); (case X => k_asm); (case hl => k_is); (case k2 => decide); (case k3 => decide); (case k4 => exact rfl); (case k6 => with_unfolding_all rfl); (case k7 => intro _; with_unfolding_all rfl); k_whole) | (refine' nt_itemT ?N ?hm ?k2 ?k3 ?k4 ?_ ?k6 ?k7; (case N => k_asm); (case hm => k_mem); (case k2 => decide); (case k3 => decide); (case k4 => exact rfl); (case k6 => with_unfolding_all rfl); (case k7 => intro _; with_unfolding_all rfl); k_whole)))
  k_with "subscriptTail Subscript Constant ref int" => (k_here; (with_reducible show wpAny _ _ (subscriptTail _ _ (Value.ref _) (Value.int _ _)) _ _ _); k_dflt (first | (refine' nt_item ?N ?hm ?k2 ?k3 ?k4 ?_ ?k6; (case N => k_asm); (case hm => k_mem); (case k2 => decide); (case k3 => decide); (case k4 => exact rfl); (case k6 => with_unfolding_all rfl); k_whole) | (refine' nt_itemK ?X ?F ?hl ?k2 ?k3 ?k4 ?_ ?k6 ?k7; (case F => k_asm); (case X => k_asm); (case hl => k_is); (case k2 => decide); (case k3 => decide); (case k4 => exact rfl); (case k6 => with_unfolding_all rfl); (case k7 => intro _; with_unfolding_all rfl); k_whole) | (refine' nt_itemT ?N ?hm ?k2 ?k3 ?k4 ?_ ?k6 ?k7; (case N => k_asm); (case hm => k_mem); (case k2 => decide); (case k3 => decide); (case k4 => exact rfl); (case k6 => with_unfolding_all rfl); (case k7 => intro _; with_unfolding_all rfl); k_whole)))
  k_with "setItem ref int" => (k_here; k_dflt (refine' ki_set ?F ?N ?k2 ?k3 ?k4 ?U ?_; (case F => k_asm); (case N => k_asm); (case U => k_upd); (case k2 => decide); (case k3 => decide); (case k4 => exact rfl); k_whole); intro h' F' N'; (try k_sweep))
  k_with "eval Name" => (k_here; (with_reducible show wpAny _ _ (eval (Expr.Name _ _) (envOf _ _ _ _ _)) _ _ _); (with_reducible rename Fr _ _ _ _ => kF); k_dflt (first | (name_kind "local"; (refine' ld kF ?k2 ?_ ?a ?b ?c; (case k2 => exact rfl); (case a => kernel_rfl!); (case b => kernel_rfl!); (case c => decide +kernel)); k_whole) | (name_kind "globalImplicit"; (refine' name_K kF ?k1 ?k2 ?k3 ?_ ?a ?b ?c; (case k1 => k_asm); (case k2 => k_asm); (case k3 => k_is); (case a => kernel_rfl!); (case b => kernel_rfl!); (case c => decide +kernel); k_whole)) | (refine' name_B kF ?k1 ?k2 ?k3 ?k4 ?k5 ?_; (case k1 => k_asm); (case k2 => k_asm); (case k3 => k_is); (case k4 => boot_by_name); (case k5 => decide); k_whole)))
  k_with "compareOp NotEq ref ref" => (k_here; k_dflt (first | (with_reducible refine' ne_t3 ?N ?ha ?hb ?e1 ?e2 ?e3 ?hu ?_; (case N => k_asm); (case ha => k_mem); (case hb => k_mem); (case e1 => first | assumption | exact (Grey.h (by assumption) (by assumption) (by assumption)).1 | exact (Grey2.h (by assumption) (by assumption) (by assumption)).1 | rfl); (case e2 => first | assumption | exact (Grey.h (by assumption) (by assumption) (by assumption)).2.1 | exact (Grey2.h (by assumption) (by assumption) (by assumption)).2.1 | rfl); (case e3 => first | assumption | exact (Grey.h (by assumption) (by assumption) (by assumption)).2.2 | exact (Grey2.h (by assumption) (by assumption) (by assumption)).2.2 | rfl); (case hu => units_room)) | (with_reducible refine' ne_l3 ?N ?ha ?hb ?e1 ?e2 ?e3 ?hu ?_; (case N => k_asm); (case ha => k_mem); (case hb => k_mem); (case e1 => first | assumption | exact (Grey.h (by assumption) (by assumption) (by assumption)).1 | exact (Grey2.h (by assumption) (by assumption) (by assumption)).1 | rfl); (case e2 => first | assumption | exact (Grey.h (by assumption) (by assumption) (by assumption)).2.1 | exact (Grey2.h (by assumption) (by assumption) (by assumption)).2.1 | rfl); (case e3 => first | assumption | exact (Grey.h (by assumption) (by assumption) (by assumption)).2.2 | exact (Grey2.h (by assumption) (by assumption) (by assumption)).2.2 | rfl); (case hu => units_room)) | (with_reducible refine' ne_l0 ?N ?ha ?hb ?hu ?_; (case N => k_asm); (case ha => k_mem); (case hb => k_mem); (case hu => units_room))))
  k_with "compareOp Eq ref ref" => (k_here; k_dflt ((with_reducible refine' eq_l0 ?N ?ha ?hb ?hu ?_; (case N => k_asm); (case ha => k_mem); (case hb => k_mem); (case hu => units_room))))
  k_with "eval Call" => ((with_reducible show wpAny _ _ (eval (Expr.Call (Expr.Name _ _) _ [] _) (envOf _ _ _ _ _)) _ _ _); k_dflt (refine Call_ ?_))
  k_with "call ref" => (k_here; (with_reducible show wpAny _ _ (call (Value.ref 147) _) _ _ _); k_dflt (refine' Con.use (c_mid _ _ _ _ ?hp) ?B ?F ?X ?N ?T ?hk ?hd ?hu ?_; (case F => k_asm); (case N => k_asm); (case hp => first | assumption | omega); (case T => k_asm); (case X => k_asm); (case B => k_asm); (case hk => first | exact rfl | assumption); (case hd => ktr_room); (case hu => ktr_units); k_whole); intro M' t' h' tk' hM' hM1' hM2' F' N'; (try k_sweep))
  k_with "call ref" => (k_here; (with_reducible show wpAny _ _ (call (Value.ref 140) _) _ _ _); k_dflt (refine' Con.use (c_most _ _ _ _ ?hp) ?B ?F ?X ?N ?T ?hk ?hd ?hu ?_; (case F => k_asm); (case N => k_asm); (case hp => first | assumption | omega); (case T => k_asm); (case X => k_asm); (case B => k_asm); (case hk => first | exact rfl | assumption); (case hd => ktr_room); (case hu => ktr_units); k_whole); intro M' t' h' tk' hM' hM1' hM2' F' N'; (try k_sweep))
  k_with "call ref" => (k_here; (with_reducible show wpAny _ _ (call (Value.ref 154) _) _ _ _); k_dflt (refine' Con.use (c_clamp _ _ _ _ _ _) ?B ?F ?X ?N ?T ?hk ?hd ?hu ?_; (case F => k_asm); (case N => k_asm); (case T => k_asm); (case X => k_asm); (case B => k_asm); (case hk => first | exact rfl | assumption); (case hd => ktr_room); (case hu => ktr_units); k_whole); intro x' t' h' tk' hX' F' N'; (try k_sweep))
  k_with "binaryOp Pow int int" => (k_here; k_dflt (first | (refine' nt_pow ?hp ?_; (case hp => first | assumption | omega)) | (refine' nt_pow1 ?hp ?_; (case hp => first | assumption | omega))))
  k_with "call ref" => (k_here; (with_reducible show wpAny _ _ (call (Value.ref 176) _) _ _ _); k_dflt (refine' Con.use (c_ycc _ _ _ _ _ _ _ _ _ _ ?hp ?hr ?hg ?hb) ?B ?F ?X ?N ?T ?hk ?hd ?hu ?_; (case F => k_asm); (case N => k_asm); (case hp => assumption); (case hr => omega); (case hg => omega); (case hb => omega); (case T => k_asm); (case X => k_asm); (case B => k_asm); (case hk => first | exact rfl | assumption); (case hd => ktr_room); (case hu => ktr_units); k_whole); intro D' y' cb' cr' ty' tb' tr' c' h' tk' hy' hcb' hcr' F' N' l1'; (try k_lt l1'); (try (have hYc : YccIs _ _ _ _ _ _ _ := ⟨by assumption, by assumption, by assumption, by assumption, hy', hcb', hcr'⟩; have hYk := hYc.ok; have hGy := Grey.of hYk; obtain ⟨yk1, yk2, yk3, yk4, yk5, yk6, yk7, yk8, yk9, yk10, yk11, yk12, -⟩ := hYk)); (try k_sweep))
  k_with "call ref" => (k_here; (with_reducible show wpAny _ _ (call (Value.ref 183) _) _ _ _); k_dflt (refine' Con.use (c_rgb _ _ _ _ _ _ _ _ _ _ ?hp ?hr ?hg ?hb) ?B ?F ?X ?N ?T ?hk ?hd ?hu ?_; (case F => k_asm); (case N => k_asm); (case hp => assumption); (case hr => omega); (case hg => omega); (case hb => omega); (case T => k_asm); (case X => k_asm); (case B => k_asm); (case hk => first | exact rfl | assumption); (case hd => ktr_room); (case hu => ktr_units); k_whole); intro D' y' cb' cr' ty' tb' tr' c' h' tk' hy' hcb' hcr' F' N' l1'; (try k_lt l1'); (try (have hBk := YccIs.back (by assumption) hy' hcb' hcr'; have hGb := Grey2.of hBk; obtain ⟨bk1, bk2, bk3, bk4, bk5, bk6, -⟩ := hBk)); (try k_sweep))
  k_with "call ref" => (k_here; (with_reducible show wpAny _ _ (call (Value.ref 294) _) _ _ _); k_dflt (refine' Con.use (c_within _ _ _ _ _ _ _ _ ?hw1 ?hw2) ?B ?F ?X ?N ?T ?hk ?hd ?hu ?_; (case F => k_asm); (case N => k_asm); (case hw1 => omega); (case hw2 => omega); (case T => k_asm); (case X => k_asm); (case B => k_asm); (case hk => first | exact rfl | assumption); (case hd => ktr_room); (case hu => ktr_units); k_whole); intro h' tk' F' N'; (try k_sweep))
  k_with "NoEnd" => (refine' NoEnd.intro ?F ?N; (case F => k_asm); (case N => k_asm))
  k_with "eval ListComp" => (k_here; (with_reducible show wpAny _ _ (eval (PySem.Expr.ListComp _ [⟨PySem.Expr.Tuple _ _ _, _, _, _⟩] _ _) _) _ _ _); k_dflt (refine' nt_near ?hh ?F ?N ?hm1 ?hm2 ?near ?hc ?c1 ?c2 ?c3 ?c4 ?c5 ?c6 ?hiter ?turn ?_; (case hh => exact rfl); (case F => k_asm); (case N => k_asm); (case hc => with_unfolding_all rfl); (case c1 => decide); (case c2 => rfl); (case c3 => decide); (case c4 => rfl); (case c5 => rfl); (case c6 => decide); (case hiter => (intro Q' hq'; repeat (first | with_reducible exact hq' | walk1 | (dsimp only; walk1)))); (case hm1 => k_mem); (case hm2 => k_mem); (case near => first | exact near33 (by omega) (by omega) (by omega) | exact near43 (by omega) (by omega) (by omega)); (case turn => (intro p' q' t' u' hpq1 hpq2 g'; unfold NoTurn; intro C' oC' m' h' tk' own' E' hC' ha' hb' F' N'; k_steps))); intro D' h' tk' F' N' l1'; (try k_lt l1'))
  unfold Con
  k_fill
  intro mean mg mb dp un gd cn cs a ccd cl outer A₀ base h₀ L m s Q E B F X N T hk hd hu hret
  have hMid := mid_le hp
  refine wpAny_call ?_
  k_dflt k_enter
  k_steps
  rename_i l1 kF kN Tc kX
  refine' hret _ _ _ _ _ _ _ _ _ _ _ ?_ ?_ ?_ ?F ?N ?l
  case F => exact kF
  case N => exact nt_sub kN (by intro q hq; rcases List.mem_cons.mp hq with rfl | hq; exact List.mem_cons_self; exact List.mem_cons_of_mem _ (List.mem_cons_of_mem _ hq))
  case l => exact l1.2
  all_goals ((rename _ = 2 * mid p - 1 => hQ); rw [← hQ]; assumption)
theorem c_cmyk (w : World) (news : Led) (y cb cr k p : Int) (t1 t2 t3 t4 t5 : Tok) (hp : 2 ≤ p ∧ p ≤ 8) (hr : 0 ≤ y ∧ y ≤ 255) (hg : 0 ≤ cb ∧ cb ≤ 255) (hb : 0 ≤ cr ∧ cr ≤ 255) :
   Con w 197 [.int y t1, .int cb t2, .int cr t3, .int k t4, .int p t5] news 3 (fun h₀ L m Q => ∀ (D : Addr) (r g b : Int) (ty tb tr tk : Tok) (c : Nat) (h' : Heap) (tk' : Nat), 2 * mid p - 1 - r = fR (mid p) y cb cr → 2 * mid p - 1 - g = fG (mid p) y cb cr → 2 * mid p - 1 - b = fB (mid p) y cb cr →
     Fr h₀ L h' m → News h₀ L h' ((D, tupOf #[.int r ty, .int g tb, .int b tr, .int k tk] c) :: news) → AllLt D news → Q (.ref D) h' tk') := by
  unfold Con
  k_fill
  intro mean mg mb dp un gd cn cs a ccd cl outer A₀ base h₀ L m s Q E B F X N T hk hd hu hret
  have hMid := mid_le hp
  refine wpAny_call ?_
  k_dflt k_enter
  k_steps
  rename_i l1 kF kN Tc kX
  refine' hret _ _ _ _ _ _ _ _ _ _ _ ?_ ?_ ?_ ?F ?N ?l
  case F => exact kF
  case N => exact nt_sub kN (by intro q hq; rcases List.mem_cons.mp hq with rfl | hq; exact List.mem_cons_self; exact List.mem_cons_of_mem _ (List.mem_cons_of_mem _ hq))
  case l => exact l1.2
  all_goals omega
end
-- NtFour2
section
open PySem PySem.W PySem.Spec PySem.Calls PyProof.Rows PySem.SeqAt
theorem c_four (w : World) (news : Led) (D : Addr) (r g b k p : Int) (t1 t2 t3 t4 t5 : Tok) (c : Nat) (hm : (D, listOf #[.int r t1, .int g t2, .int b t3] c) ∈ news) (hp : 2 ≤ p ∧ p ≤ 8) (hr : 0 ≤ r ∧ r ≤ 2 * mid p - 1) (hg : 0 ≤ g ∧ g ≤ 2 * mid p - 1) (hb : 0 ≤ b ∧ b ≤ 2 * mid p - 1) :
   Con w 304 [.ref D, .int k t4, .int p t5] news 20 (fun h₀ L m Q => ∀ (h' : Heap) (tk' : Nat), Fr h₀ L h' m → News h₀ L h' news → Q (.bool true) h' tk') := by
  w_top off
  k_with_none
  k_with "k_room" => skip
  k_with "units_room" => skip
  k_with "k_all" => ((with_reducible rename AllLt _ _ => hx9); first | exact allLt_ne hx9 (by (try dsimp only); omega) | (clear hx9; k_all))
  k_with "k_all" => first | assumption | exact off1_all (by assumption) | ((with_reducible rename _ ∧ AllLt _ _ => hx9); first | exact allLt_ne hx9.2 (by (try dsimp only); omega) | (clear hx9; k_all))
  k_with "k_all" => first | assumption | exact off1_all (by assumption)
  k_with "k_mem" => first | assumption | ((with_reducible (repeat' (first | exact List.mem_cons_self | assumption | refine List.mem_cons_of_mem _ ?_))); done)
  k_with "lcg_off" => first | exact True.intro | assumption | (refine And.intro (by first | assumption | exact ⟨by k_ne, by k_ne, by k_ne⟩) ?_; lcg_off)
  k_with "k_enter" => skip
  k_with "CompEnd" => (refine' nt_compEnd ?F ?N ?P1 ?P2 ?P3 ?off ?S ?_; (case F => assumption); (case N => assumption); (case P1 => repeat' (first | exact Pick.head | refine' Pick.tail ?_)); (case P2 => repeat' (first | exact Pick.head | refine' Pick.tail ?_)); (case P3 => repeat' (first | exact Pick.head | refine' Pick.tail ?_)); (case off => lcg_off); (case S => first | lcg_src | assumption))
  k_with "eval ListComp" => (k_here; k_dflt (refine LCg.ListComp_U (F₀ := by k_asm) (by with_unfolding_all rfl) (by decide) (by rfl) (by decide) (by rfl) ?_))
  k_with "exec Assign cons ListComp" => (k_here; k_dflt (refine LCg.Assign_ListComp_U (F₀ := by k_asm) (by rfl) (by with_unfolding_all rfl) (by with_unfolding_all rfl) (by decide) (by rfl) (by decide) (by rfl) (by rfl) (by rfl) ?_))
  k_with "eval ListComp" => (k_here; k_dflt (refine LCt.ListComp_T (F₀ := by k_asm) (by with_unfolding_all rfl) (by decide) (by rfl) (by decide) (by rfl) ?_))
  k_with "CompSrcT" => (k_here; k_dflt (first | (refine LCt.CompSrcT.ledger (by rfl) (by k_asm) (by k_asm) (by k_mem) (by first | size_fits | exact Nat.le_of_ble_eq_true rfl) ?_; intro g'; lct_lit) | (refine LCt.CompSrcT.range (by rfl) (by k_asm) (by k_asm) (by assumption) (by first | decide | rfl) (by first | rfl | decide) (by first | size_fits | exact Nat.le_of_ble_eq_true rfl) ?_; intro g'; lct_lit)))
  k_with "CompRestT" => (with_unfolding_all first | (refine LCt.CompRestT.succ ?_; intro v' I' oI' C' oC' D' m' h' tk' E' hv' hC' hx' F' N' off' ne'; (first | lcg_open hv' | (obtain ⟨t9', hv9'⟩ := hv'; subst hv9')); (repeat (obtain ⟨ho', off'⟩ := off'))) | refine LCt.CompRestT.zero ?_)
  k_with "CompSrc" => (k_here; k_dflt (first | (refine LCg.CompSrc.ledger (by rfl) (by k_asm) (by k_asm) (by k_mem) (by first | size_fits | exact Nat.le_of_ble_eq_true rfl) ?_; intro g'; lcg_lit) | (refine LCg.CompSrc.range (by rfl) (by k_asm) (by k_asm) (by assumption) (by first | decide | rfl) (by first | rfl | decide) (by first | size_fits | exact Nat.le_of_ble_eq_true rfl) ?_; intro g'; lcg_lit)))
  k_with "CompRest" => (with_unfolding_all first | (refine LCg.CompRest.succ ?_; intro v' I' oI' C' oC' D' m' h' tk' E' hv' hC' hx' F' N' off' ne'; (first | lcg_open hv' | (obtain ⟨t9', hv9'⟩ := hv'; subst hv9')); (repeat (obtain ⟨ho', off'⟩ := off'))) | refine LCg.CompRest.zero ?_)
  k_with "execs cons" => ((with_reducible refine gen_toks (fun tk => ?_)); (with_reducible refine wpAny_execs_cons ?_); (try dsimp only); (try k_fold))
  k_with "subscriptTail" => (k_here; (with_reducible show wpAny _ _ (subscriptTail _ _ (Value.ref _) (Value.int _ _)) _ _ _); k_dflt (first | (refine' nt_item ?N ?hm ?k2 ?k3 ?k4 ?_ ?k6; (case N => k_asm); (case hm => k_mem); (case k2 => decide); (case k3 => decide); (case k4 => exact rfl); (case k6 => with_unfolding_all rfl); k_whole) | (refine' nt_itemK ?X ?F ?hl ?k2 ?k3 ?k4 ?_ ?k6 ?k7; (case F => k_asm); (case X => k_asm); (case hl => k_is); (case k2 => decide); (case k3 => decide); (case k4 => exact rfl); (case k6 => with_unfolding_all rfl); (case k7 => intro _; with_unfolding_all rfl); k_whole) | (refine' nt_itemT ?N ?hm ?k2 ?k3 ?k4 ?_ ?k6 ?k7; (case N => k_asm); (case hm => k_mem); (case k2 => decide); (case k3 => decide); (case k4 => exact rfl); (case k6 => with_unfolding_all rfl); (case k7 => intro _; with_unfolding_all rfl); k_whole)))
  k_with "subscriptTail Name Constant ref int" => (k_here; (with_reducible show wpAny _ _ (subscriptTail _ _ (Value.ref _) (Value.int _ _)) _ _ _); k_dflt (first | (refine' nt_item ?N ?hm ?k2 ?k3 ?k4 ?_ ?k6; (case N => k_asm); (case hm => k_mem); (case k2 => decide); (case k3 => decide); (case k4 => exact rfl); (case k6 => with_unfolding_all rfl); k_whole) | (refine' nt_itemK ?X ?F ?hl ?k2 ?k3 ?k4 ?_ ?k6 ?k7; (case F => k_asm); (case X => k_asm); (case hl => k_is); (case k2 => decide); (case k3 => decide); (case k4 => exact rfl); (case k6 => with_unfolding_all rfl); (case k7 => intro _; with_unfolding_all rfl); k_whole) | (refine' nt_itemT ?N ?hm ?k2 ?k3 ?k4 ?_ ?k6 ?k7; (case N => k_asm); (case hm => k_mem); (case k2 => decide); (case k3 => decide); (case k4 => exact rfl); (case k6 => with_unfolding_all rfl); (case k7 => intro _; with_unfolding_all rfl); k_whole)))
  k_with "subscriptTail Name Name ref int" => (k_here; (with_reducible show wpAny _ _ (subscriptTail _ _ (Value.ref _) (Value.int _ _)) _ _ _); k_dflt (first | (refine' nt_item ?N ?hm ?k2 ?k3 ?k4 ?_ ?k6; (case N => k_asm); (case hm => k_mem); (case k2 => decide); (case k3 => decide); (case k4 => exact rfl); (case k6 => with_unfolding_all rfl); k_whole) | (refine' nt_itemK ?X ?F ?hl ?k2 ?k3 ?k4 ?_ ?k6 ?k7; (case F => k_asm); (case X => k_asm); (case hl => k_is); (case k2 => decide); (case k3 => decide); (case k4 => exact rfl); (case k6 => with_unfolding_all rfl); (case k7 => intro _; with_unfolding_all rfl); k_whole) | (refine' nt_itemT ?N ?hm ?k2 ?k3 ?k4 ?_ ?k6 ?k7; (case N => k_asm); (case hm => k_mem); (case k2 => decide); (case k3 => decide); (case k4 => exact rfl); (case k6 => with_unfolding_all rfl); (case k7 => intro _; with_unfolding_all rfl); k_whole)))
  k_with "subscriptTail Attribute Name Constant ref int" => (k_here; (with_reducible show wpAny _ _ (subscriptTail _ _ (Value.ref _) (Value.int _ _)) _ _ _); k_dflt (first | (refine' nt_item ?N ?hm ?k2 ?k3 ?k4 ?_ ?k6; (case N => k_asm); (case hm => k_mem); (case k2 => decide); (case k3 => decide); (case k4 => exact rfl); (case k6 => with_unfolding_all rfl); k_whole) | (refine' nt_itemK ?X ?F ?hl ?k2 ?k3 ?k4 ?_ ?k6 ?k7; (case F => k_asm); (case X => k_asm); (case hl => k_is); (case k2 => decide); (case k3 => decide); (case k4 => exact rfl); (case k6 => with_unfolding_all rfl); (case k7 => intro _; with_unfolding_all rfl); k_whole) | (refine' nt_itemT ?N ?hm ?k2 ?k3 ?k4 ?_ ?k6 ?k7; (case N => k_asm); (case hm => k_mem); (case k2 => decide); (case k3 => decide); (case k4 => exact rfl); (case k6 => with_unfolding_all rfl); (case k7 => intro _; with_unfolding_all rfl); k_whole)))
  k_with "subscriptTail Attribute Name Name ref int" => (k_here; (with_reducible show wpAny _ _ (subscriptTail _ _ (Value.ref _) (Value.int _ _)) _ _ _); k_dflt (first | (refine' nt_item ?N ?hm ?k2 ?k3 ?k4 ?_ ?k6; (case N => k_asm); (case hm => k_mem); (case k2 => decide); (case k3 => decide); (case k4 => exact rfl); (case k6 => with_unfolding_all rfl); k_whole) | (refine' nt_itemK ?X ?F ?hl ?k2 ?k3 ?k4 ?_ ?k6 ?k7; (case F => k_asm); (case X => k_asm); (case hl => k_is); (case k2 => decide); (case k3 => decide); (case k4 => exact rfl); (case k6 => with_unfolding_all rfl); (case k7 => intro _; with_unfolding_all rfl); k_whole) | (refine' nt_itemT ?N ?hm ?k2 ?k3 ?k4 ?_ ?k6 ?k7; (case N => k_asm); (case hm => k_mem); (case k2 => decide); (case k3 => decide); (case k4 => exact rfl); (case k6 => with_unfolding_all rfl); (case k7 => intro _; with_unfolding_all rfl); k_whole)))
  k_with "subscriptTail Subscript Name ref int" => (k_here; (with_reducible show wpAny _ _ (subscriptTail _ _ (Value.ref _) (Value.int _ _)) _ _ _); k_dflt (first | (refine' nt_item ?N ?hm ?k2 ?k3 ?k4 ?_ ?k6; (case N => k_asm); (case hm => k_mem); (case k2 => decide); (case k3 => decide); (case k4 => exact rfl); (case k6 => with_unfolding_all rfl); k_whole) | (refine' nt_itemK ?X ?F ?hl ?k2 ?k3 ?k4 ?_ ?k6 ?k7; (case F => k_asm); (case X => k_asm); (case hl => k_is); (case k2 => decide); (case k3 => decide); (case k4 => exact rfl); (case k6 => with_unfolding_all rfl); (case k7 => intro _; with_unfolding_all rfl); k_whole) | (refine' nt_itemT ?N ?hm ?k2 ?k3 ?k4 ?_ ?k6 ?k7; (case N => k_asm); (case hm => k_mem); (case k2 => decide); (case k3 => decide); (case k4 => exact rfl); (case k6 => with_unfolding_all rfl); (case k7 => intro _; with_unfolding_all rfl); k_whole)))
  k_with "subscriptTail Subscript Constant ref int" => (k_here; (with_reducible show wpAny _ _ (subscriptTail _ _ (Value.ref _) (Value.int _ _)) _ _ _); k_dflt (first | (refine' nt_item ?N ?hm ?k2 ?k3 ?k4 ?_ ?k6; (case N => k_asm); (case hm => k_mem); (case k2 => decide); (case k3 => decide); (case k4 => exact rfl); (case k6 => with_unfolding_all rfl); k_whole) | (refine' nt_itemK ?X ?F ?hl ?k2 ?k3 ?k4 ?_ ?k6 ?k7; (case F => k_asm); (case X => k_asm); (case hl => k_is); (case k2 => decide); (case k3 => decide); (case k4 => exact rfl); (case k6 => with_unfolding_all rfl); (case k7 => intro _; with_unfolding_all rfl); k_whole) | (refine' nt_itemT ?N ?hm ?k2 ?k3 ?k4 ?_ ?k6 ?k7; (case N => k_asm); (case hm => k_mem); (case k2 => decide); (case k3 => decide); (case k4 => exact rfl); (case k6 => with_unfolding_all rfl); (case k7 => intro _; with_unfolding_all rfl); k_whole)))
  k_with "setItem ref int" => (k_here; k_dflt (refine' ki_set ?F ?N ?k2 ?k3 ?k4 ?U ?_; (case F => k_asm); (case N => k_asm); (case U => k_upd); (case k2 => decide); (case k3 => decide); (case k4 => exact rfl); k_whole); intro h' F' N'; (try k_sweep))
  k_with "eval Name" => (k_here; (with_reducible show wpAny _ _ (eval (Expr.Name _ _) (envOf _ _ _ _ _)) _ _ _); (with_reducible rename Fr _ _ _ _ => kF); k_dflt (first | (name_kind "local"; (refine' ld kF ?k2 ?_ ?a ?b ?c; (case k2 => exact rfl); (case a => kernel_rfl!); (case b => kernel_rfl!); (case c => decide +kernel)); k_whole) | (name_kind "globalImplicit"; (refine' name_K kF ?k1 ?k2 ?k3 ?_ ?a ?b ?c; (case k1 => k_asm); (case k2 => k_asm); (case k3 => k_is); (case a => kernel_rfl!); (case b => kernel_rfl!); (case c => decide +kernel); k_whole)) | (refine' name_B kF ?k1 ?k2 ?k3 ?k4 ?k5 ?_; (case k1 => k_asm); (case k2 => k_asm); (case k3 => k_is); (case k4 => boot_by_name); (case k5 => decide); k_whole)))
  k_with "compareOp NotEq ref ref" => (k_here; k_dflt (first | (with_reducible refine' ne_t3 ?N ?ha ?hb ?e1 ?e2 ?e3 ?hu ?_; (case N => k_asm); (case ha => k_mem); (case hb => k_mem); (case e1 => first | assumption | exact (Grey.h (by assumption) (by assumption) (by assumption)).1 | exact (Grey2.h (by assumption) (by assumption) (by assumption)).1 | rfl); (case e2 => first | assumption | exact (Grey.h (by assumption) (by assumption) (by assumption)).2.1 | exact (Grey2.h (by assumption) (by assumption) (by assumption)).2.1 | rfl); (case e3 => first | assumption | exact (Grey.h (by assumption) (by assumption) (by assumption)).2.2 | exact (Grey2.h (by assumption) (by assumption) (by assumption)).2.2 | rfl); (case hu => units_room)) | (with_reducible refine' ne_l3 ?N ?ha ?hb ?e1 ?e2 ?e3 ?hu ?_; (case N => k_asm); (case ha => k_mem); (case hb => k_mem); (case e1 => first | assumption | exact (Grey.h (by assumption) (by assumption) (by assumption)).1 | exact (Grey2.h (by assumption) (by assumption) (by assumption)).1 | rfl); (case e2 => first | assumption | exact (Grey.h (by assumption) (by assumption) (by assumption)).2.1 | exact (Grey2.h (by assumption) (by assumption) (by assumption)).2.1 | rfl); (case e3 => first | assumption | exact (Grey.h (by assumption) (by assumption) (by assumption)).2.2 | exact (Grey2.h (by assumption) (by assumption) (by assumption)).2.2 | rfl); (case hu => units_room)) | (with_reducible refine' ne_l0 ?N ?ha ?hb ?hu ?_; (case N => k_asm); (case ha => k_mem); (case hb => k_mem); (case hu => units_room))))
  k_with "compareOp Eq ref ref" => (k_here; k_dflt ((with_reducible refine' eq_l0 ?N ?ha ?hb ?hu ?_; (case N => k_asm); (case ha => k_mem); (case hb => k_mem); (case hu => units_room))))
  k_with "eval Call" => ((with_reducible show wpAny _ _ (eval (Expr.Call (Expr.Name _ _) _ [] _) (envOf _ _ _ _ _)) _ _ _); k_dflt (refine Call_ ?_))
  k_with "call ref" => (k_here; (with_reducible show wpAny _ _ (call (Value.ref 190) _) _ _ _); k_dflt (refine' Con.use (c_ycck _ _ _ _ _ _ _ _ _ _ _ _ ?hp ?hr ?hg ?hb) ?B ?F ?X ?N ?T ?hk ?hd ?hu ?_; (case F => k_asm); (case N => k_asm); (case hp => assumption); (case hr => first | assumption | omega); (case hg => first | assumption | omega); (case hb => first | assumption | omega); (case T => k_asm); (case X => k_asm); (case B => k_asm); (case hk => first | exact rfl | assumption); (case hd => ktr_room); (case hu => ktr_units); k_whole); intro D' y' cb' cr' ty' tb' tr' tk9' c' h' tk' hy' hcb' hcr' F' N' l1'; (try k_lt l1'); (try (have hYc : YccIs _ _ _ _ _ _ _ := ⟨by assumption, by omega, by omega, by omega, hy', hcb', hcr'⟩; have hYk := hYc.ok; obtain ⟨yk1, yk2, yk3, yk4, yk5, yk6, yk7, yk8, yk9, yk10, yk11, yk12, -⟩ := hYk)); (try k_sweep))
  k_with "call ref" => (k_here; (with_reducible show wpAny _ _ (call (Value.ref 197) _) _ _ _); k_dflt (refine' Con.use (c_cmyk _ _ _ _ _ _ _ _ _ _ _ _ ?hp ?hr ?hg ?hb) ?B ?F ?X ?N ?T ?hk ?hd ?hu ?_; (case F => k_asm); (case N => k_asm); (case hp => assumption); (case hr => omega); (case hg => omega); (case hb => omega); (case T => k_asm); (case X => k_asm); (case B => k_asm); (case hk => first | exact rfl | assumption); (case hd => ktr_room); (case hu => ktr_units); k_whole); intro D' y' cb' cr' ty' tb' tr' tk9' c' h' tk' hy' hcb' hcr' F' N' l1'; (try k_lt l1'); (try (have hBk := YccIs.back (by assumption) hy' hcb' hcr'; obtain ⟨bk1, bk2, bk3, bk4, bk5, bk6, -⟩ := hBk)); (try k_sweep))
  k_with "call ref" => (k_here; (with_reducible show wpAny _ _ (call (Value.ref 294) _) _ _ _); k_dflt (refine' Con.use (c_within _ _ _ _ _ _ _ _ ?hw1 ?hw2) ?B ?F ?X ?N ?T ?hk ?hd ?hu ?_; (case F => k_asm); (case N => k_asm); (case hw1 => omega); (case hw2 => omega); (case T => k_asm); (case X => k_asm); (case B => k_asm); (case hk => first | exact rfl | assumption); (case hd => ktr_room); (case hu => ktr_units); k_whole); intro h' tk' F' N'; (try k_sweep))
  k_with "NoEnd" => (refine' NoEnd.intro ?F ?N; (case F => k_asm); (case N => k_asm))
  k_with "eval ListComp" => (k_here; (with_reducible show wpAny _ _ (eval (PySem.Expr.ListComp _ [⟨PySem.Expr.Tuple _ _ _, _, _, _⟩] _ _) _) _ _ _); k_dflt (refine' nt_near ?hh ?F ?N ?hm1 ?hm2 ?near ?hc ?c1 ?c2 ?c3 ?c4 ?c5 ?c6 ?hiter ?turn ?_; (case hh => exact rfl); (case F => k_asm); (case N => k_asm); (case hc => with_unfolding_all rfl); (case c1 => decide); (case c2 => rfl); (case c3 => decide); (case c4 => rfl); (case c5 => rfl); (case c6 => decide); (case hiter => (intro Q' hq'; repeat (first | with_reducible exact hq' | walk1 | (dsimp only; walk1)))); (case hm1 => k_mem); (case hm2 => k_mem); (case near => first | exact near33 (by omega) (by omega) (by omega) | exact near43 (by omega) (by omega) (by omega)); (case turn => (intro p' q' t' u' hpq1 hpq2 g'; unfold NoTurn; intro C' oC' m' h' tk' own' E' hC' ha' hb' F' N'; k_steps))); intro D' h' tk' F' N' l1'; (try k_lt l1'))
  unfold Con
  k_fill
  intro mean mg mb dp un gd cn cs a ccd cl outer A₀ base h₀ L m s Q E B F X N T hk hd hu hret
  have hMid := mid_le hp
  refine wpAny_call ?_
  k_dflt k_enter
  k_steps
  all_goals first | (exfalso; omega) | (refine' hret _ _ ?F ?N; (case F => assumption); (case N => (rename News h₀ L _ _ => hN; exact nt_sub hN (by intro q hq; k_mem))))
end
-- NtColour
section
open PySem PySem.W PySem.Spec PySem.Calls PyProof.Rows PySem.SeqAt
theorem ntc1 {h₀ h : Heap} {L : Addr} {a b c d e : Addr × Obj} {rest : Led} (N : News h₀ L h (a :: b :: c :: d :: e :: rest)) : News h₀ L h (a :: c :: rest) := nt_sub N (by
  intro q hq
  rcases List.mem_cons.mp hq with rfl | hq
  · exact .head _
  · rcases List.mem_cons.mp hq with rfl | hq
    · exact .tail _ (.tail _ (.head _))
    · exact .tail _ (.tail _ (.tail _ (.tail _ (.tail _ hq)))))
theorem ntc2 {h₀ h : Heap} {L : Addr} {a c d e : Addr × Obj} {rest : Led} (N : News h₀ L h (a :: c :: d :: e :: rest)) : News h₀ L h (a :: c :: rest) := nt_sub N (by
  intro q hq
  rcases List.mem_cons.mp hq with rfl | hq
  · exact .head _
  · rcases List.mem_cons.mp hq with rfl | hq
    · exact .tail _ (.head _)
    · exact .tail _ (.tail _ (.tail _ (.tail _ hq))))
theorem most_in {m d : Int} (h0 : 0 ≤ m) (h1 : 0 ≤ d) (h2 : d < 2) : 0 ≤ m * d ∧ m * d ≤ m := by
  have : d = 0 ∨ d = 1 := by omega
  rcases this with rfl | rfl <;> omega
theorem c_colour0 (w : World) (src : Addr) (i j : Int) (ti tj : Tok) (c : Nat) (rest : Led) (hne : ∀ p ∈ rest, p.1 ≠ src) (most : Int) (tt : Tok) (h0 : 0 ≤ i) (hj : 0 ≤ j ∧ j < 2147483647) (ht : 3 ≤ most ∧ most ≤ 255) :
   Con w 287 [.ref src, .int most tt] ((src, srcObj c i j ti tj) :: rest) 3
   (fun h₀ L m Q => ∀ (D : Addr) (r g b : Int) (t1 t2 t3 : Tok) (cc : Nat) (i' j' : Int) (ti' tj' : Tok) (h' : Heap) (tk' : Nat), 0 ≤ i' → (0 ≤ j' ∧ j' < 2147483647) → (0 ≤ r ∧ r ≤ most) → (0 ≤ g ∧ g ≤ most) → (0 ≤ b ∧ b ≤ most) → Fr h₀ L h' m → News h₀ L h' ((D, listOf #[.int r t1, .int g t2, .int b t3] cc) :: (src, srcObj c i' j' ti' tj') :: rest) → LCg.Off1 D ((src, srcObj c i' j' ti' tj') :: rest) → Q (.ref D) h' tk') := by
  w_top off
  k_with_none
  k_with "k_room" => skip
  k_with "units_room" => skip
  k_with "k_all" => ((with_reducible rename AllLt _ _ => hx9); first | exact allLt_ne hx9 (by (try dsimp only); omega) | (clear hx9; k_all))
  k_with "k_all" => first | assumption | exact off1_all (by assumption) | ((with_reducible rename _ ∧ AllLt _ _ => hx9); first | exact allLt_ne hx9.2 (by (try dsimp only); omega) | (clear hx9; k_all))
  k_with "k_all" => first | assumption | exact off1_all (by assumption)
  k_with "k_mem" => first | assumption | ((with_reducible (repeat' (first | exact List.mem_cons_self | assumption | refine List.mem_cons_of_mem _ ?_))); done)
  k_with "lcg_off" => first | exact True.intro | assumption | (refine And.intro (by first | assumption | exact ⟨by k_ne, by k_ne, by k_ne⟩) ?_; lcg_off)
  k_with "k_enter" => skip
  k_with "CompEnd" => (refine' nt_compEnd ?F ?N ?P1 ?P2 ?P3 ?off ?S ?_; (case F => assumption); (case N => assumption); (case P1 => repeat' (first | exact Pick.head | refine' Pick.tail ?_)); (case P2 => repeat' (first | exact Pick.head | refine' Pick.tail ?_)); (case P3 => repeat' (first | exact Pick.head | refine' Pick.tail ?_)); (case off => lcg_off); (case S => first | lcg_src | assumption))
  k_with "eval ListComp" => (k_here; (with_reducible show wpAny _ _ (eval (PySem.Expr.ListComp _ [⟨PySem.Expr.Name _ _, _, [], _⟩] _ _) _) _ _ _); (try k_fold); k_dflt (refine LCg.ListComp_U (F₀ := by k_asm) (by with_unfolding_all rfl) (by decide) (by rfl) (by decide) (by rfl) ?_))
  k_with "exec Assign cons ListComp" => (k_here; k_dflt (refine LCg.Assign_ListComp_U (F₀ := by k_asm) (by rfl) (by with_unfolding_all rfl) (by with_unfolding_all rfl) (by decide) (by rfl) (by decide) (by rfl) (by rfl) (by rfl) ?_))
  k_with "eval ListComp" => (k_here; (with_reducible show wpAny _ _ (eval (PySem.Expr.ListComp _ [⟨PySem.Expr.Name _ _, _, [_], _⟩] _ _) _) _ _ _); (try k_fold); k_dflt (refine LCt.ListComp_T (F₀ := by k_asm) (by with_unfolding_all rfl) (by decide) (by rfl) (by decide) (by rfl) ?_))
  k_with "CompSrcT" => (k_here; k_dflt (first | (refine LCt.CompSrcT.ledger (by rfl) (by k_asm) (by k_asm) (by k_mem) (by first | size_fits | exact Nat.le_of_ble_eq_true rfl) ?_; intro g'; lct_lit) | (refine LCt.CompSrcT.range (by rfl) (by k_asm) (by k_asm) (by assumption) (by first | decide | rfl) (by first | rfl | decide) (by first | size_fits | exact Nat.le_of_ble_eq_true rfl) ?_; intro g'; lct_lit)))
  k_with "CompRestT" => (with_unfolding_all first | (refine LCt.CompRestT.succ ?_; intro v' I' oI' C' oC' D' m' h' tk' E' hv' hC' hx' F' N' off' ne'; (first | lcg_open hv' | (obtain ⟨t9', hv9'⟩ := hv'; subst hv9')); (repeat (obtain ⟨ho', off'⟩ := off'))) | refine LCt.CompRestT.zero ?_)
  k_with "CompSrc" => (k_here; k_dflt (first | (refine LCg.CompSrc.ledger (by rfl) (by k_asm) (by k_asm) (by k_mem) (by first | size_fits | exact Nat.le_of_ble_eq_true rfl) ?_; intro g'; lcg_lit) | (refine LCg.CompSrc.range (by rfl) (by k_asm) (by k_asm) (by assumption) (by first | decide | rfl) (by first | rfl | decide) (by first | size_fits | exact Nat.le_of_ble_eq_true rfl) ?_; intro g'; lcg_lit)))
  k_with "CompRest" => (with_unfolding_all first | (refine LCg.CompRest.succ ?_; intro v' I' oI' C' oC' D' m' h' tk' E' hv' hC' hx' F' N' off' ne'; (first | lcg_open hv' | (obtain ⟨t9', hv9'⟩ := hv'; subst hv9')); (repeat (obtain ⟨ho', off'⟩ := off'))) | refine LCg.CompRest.zero ?_)
  k_with "execs cons" => ((with_reducible refine gen_toks (fun tk => ?_)); (with_reducible refine wpAny_execs_cons ?_); (try dsimp only); (try k_fold))
  k_with "subscriptTail" => (k_here; (with_reducible show wpAny _ _ (subscriptTail _ _ (Value.ref _) (Value.int _ _)) _ _ _); k_dflt (first | (refine' nt_item ?N ?hm ?k2 ?k3 ?k4 ?_ ?k6; (case N => k_asm); (case hm => k_mem); (case k2 => decide); (case k3 => decide); (case k4 => exact rfl); (case k6 => with_unfolding_all rfl); k_whole) | (refine' nt_itemK ?X ?F ?hl ?k2 ?k3 ?k4 ?_ ?k6 ?k7; (case F => k_asm); (case X => k_asm); (case hl => k_is); (case k2 => decide); (case k3 => decide); (case k4 => exact rfl); (case k6 => with_unfolding_all rfl); (case k7 => intro _; with_unfolding_all rfl); k_whole) | (refine' nt_itemT ?N ?hm ?k2 ?k3 ?k4 ?_ ?k6 ?k7; (case N => k_asm); (case hm => k_mem); (case k2 => decide); (case k3 => decide); (case k4 => exact rfl); (case k6 => with_unfolding_all rfl); (case k7 => intro _; with_unfolding_all rfl); k_whole)))
  k_with "subscriptTail Name Constant ref int" => (k_here; (with_reducible show wpAny _ _ (subscriptTail _ _ (Value.ref _) (Value.int _ _)) _ _ _); k_dflt (first | (refine' nt_item ?N ?hm ?k2 ?k3 ?k4 ?_ ?k6; (case N => k_asm); (case hm => k_mem); (case k2 => decide); (case k3 => decide); (case k4 => exact rfl); (case k6 => with_unfolding_all rfl); k_whole) | (refine' nt_itemK ?X ?F ?hl ?k2 ?k3 ?k4 ?_ ?k6 ?k7; (case F => k_asm); (case X => k_asm); (case hl => k_is); (case k2 => decide); (case k3 => decide); (case k4 => exact rfl); (case k6 => with_unfolding_all rfl); (case k7 => intro _; with_unfolding_all rfl); k_whole) | (refine' nt_itemT ?N ?hm ?k2 ?k3 ?k4 ?_ ?k6 ?k7; (case N => k_asm); (case hm => k_mem); (case k2 => decide); (case k3 => decide); (case k4 => exact rfl); (case k6 => with_unfolding_all rfl); (case k7 => intro _; with_unfolding_all rfl); k_whole)))
  k_with "subscriptTail Name Name ref int" => (k_here; (with_reducible show wpAny _ _ (subscriptTail _ _ (Value.ref _) (Value.int _ _)) _ _ _); k_dflt (first | (refine' nt_item ?N ?hm ?k2 ?k3 ?k4 ?_ ?k6; (case N => k_asm); (case hm => k_mem); (case k2 => decide); (case k3 => decide); (case k4 => exact rfl); (case k6 => with_unfolding_all rfl); k_whole) | (refine' nt_itemK ?X ?F ?hl ?k2 ?k3 ?k4 ?_ ?k6 ?k7; (case F => k_asm); (case X => k_asm); (case hl => k_is); (case k2 => decide); (case k3 => decide); (case k4 => exact rfl); (case k6 => with_unfolding_all rfl); (case k7 => intro _; with_unfolding_all rfl); k_whole) | (refine' nt_itemT ?N ?hm ?k2 ?k3 ?k4 ?_ ?k6 ?k7; (case N => k_asm); (case hm => k_mem); (case k2 => decide); (case k3 => decide); (case k4 => exact rfl); (case k6 => with_unfolding_all rfl); (case k7 => intro _; with_unfolding_all rfl); k_whole)))
  k_with "subscriptTail Attribute Name Constant ref int" => (k_here; (with_reducible show wpAny _ _ (subscriptTail _ _ (Value.ref _) (Value.int _ _)) _ _ _); k_dflt (first | (refine' nt_item ?N ?hm ?k2 ?k3 ?k4 ?_ ?k6; (case N => k_asm); (case hm => k_mem); (case k2 => decide); (case k3 => decide); (case k4 => exact rfl); (case k6 => with_unfolding_all rfl); k_whole) | (refine' nt_itemK ?X ?F ?hl ?k2 ?k3 ?k4 ?_ ?k6 ?k7; (case F => k_asm); (case X => k_asm); (case hl => k_is); (case k2 => decide); (case k3 => decide); (case k4 => exact rfl); (case k6 => with_unfolding_all rfl); (case k7 => intro _; with_unfolding_all rfl); k_whole) | (refine' nt_itemT ?N ?hm ?k2 ?k3 ?k4 ?_ ?k6 ?k7; (case N => k_asm); (case hm => k_mem); (case k2 => decide); (case k3 => decide); (case k4 => exact rfl); (case k6 => with_unfolding_all rfl); (case k7 => intro _; with_unfolding_all rfl); k_whole)))
  k_with "subscriptTail Attribute Name Name ref int" => (k_here; (with_reducible show wpAny _ _ (subscriptTail _ _ (Value.ref _) (Value.int _ _)) _ _ _); k_dflt (first | (refine' nt_item ?N ?hm ?k2 ?k3 ?k4 ?_ ?k6; (case N => k_asm); (case hm => k_mem); (case k2 => decide); (case k3 => decide); (case k4 => exact rfl); (case k6 => with_unfolding_all rfl); k_whole) | (refine' nt_itemK ?X ?F ?hl ?k2 ?k3 ?k4 ?_ ?k6 ?k7; (case F => k_asm); (case X => k_asm); (case hl => k_is); (case k2 => decide); (case k3 => decide); (case k4 => exact rfl); (case k6 => with_unfolding_all rfl); (case k7 => intro _; with_unfolding_all rfl); k_whole) | (refine' nt_itemT ?N ?hm ?k2 ?k3 ?k4 ?_ ?k6 ?k7; (case N => k_asm); (case hm => k_mem); (case k2 => decide); (case k3 => decide); (case k4 => exact rfl); (case k6 => with_unfolding_all rfl); (case k7 => intro _; with_unfolding_all rfl); k_whole)))
  k_with "subscriptTail Subscript Name ref int" => (k_here; (with_reducible show wpAny _ _ (subscriptTail _ _ (Value.ref _) (Value.int _ _)) _ _ _); k_dflt (first | (refine' nt_item ?N ?hm ?k2 ?k3 ?k4 ?_ ?k6; (case N => k_asm); (case hm => k_mem); (case k2 => decide); (case k3 => decide); (case k4 => exact rfl); (case k6 => with_unfolding_all rfl); k_whole) | (refine' nt_itemK ?X ?F ?hl ?k2 ?k3 ?k4 ?_ ?k6 ?k7; (case F => k_asm); (case X => k_asm); (case hl => k_is); (case k2 => decide); (case k3 => decide); (case k4 => exact rfl); (case k6 => with_unfolding_all rfl); (case k7 => intro _; with_unfolding_all rfl); k_whole) | (refine' nt_itemT ?N ?hm ?k2 ?k3 ?k4 ?_ ?k6 ?k7; (case N => k_asm); (case hm => k_mem); (case k2 => decide); (case k3 => decide); (case k4 => exact rfl); (case k6 => with_unfolding_all rfl); (case k7 => intro _; with_unfolding_all rfl); k_whole)))
  k_with "subscriptTail Subscript Constant ref int" => (k_here; (with_reducible show wpAny _ _ (subscriptTail _ _ (Value.ref _) (Value.int _ _)) _ _ _); k_dflt (first | (refine' nt_item ?N ?hm ?k2 ?k3 ?k4 ?_ ?k6; (case N => k_asm); (case hm => k_mem); (case k2 => decide); (case k3 => decide); (case k4 => exact rfl); (case k6 => with_unfolding_all rfl); k_whole) | (refine' nt_itemK ?X ?F ?hl ?k2 ?k3 ?k4 ?_ ?k6 ?k7; (case F => k_asm); (case X => k_asm); (case hl => k_is); (case k2 => decide); (case k3 => decide); (case k4 => exact rfl); (case k6 => with_unfolding_all rfl); (case k7 => intro _; with_unfolding_all rfl); k_whole) | (refine' nt_itemT ?N ?hm ?k2 ?k3 ?k4 ?_ ?k6 ?k7; (case N => k_asm); (case hm => k_mem); (case k2 => decide); (case k3 => decide); (case k4 => exact rfl); (case k6 => with_unfolding_all rfl); (case k7 => intro _; with_unfolding_all rfl); k_whole)))
  k_with "setItem ref int" => (k_here; k_dflt (refine' ki_set ?F ?N ?k2 ?k3 ?k4 ?U ?_; (case F => k_asm); (case N => k_asm); (case U => k_upd); (case k2 => decide); (case k3 => decide); (case k4 => exact rfl); k_whole); intro h' F' N'; (try k_sweep))
  k_with "eval Name" => (k_here; (with_reducible show wpAny _ _ (eval (Expr.Name _ _) (envOf _ _ _ _ _)) _ _ _); (with_reducible rename Fr _ _ _ _ => kF); k_dflt (first | (name_kind "local"; (refine' ld kF ?k2 ?_ ?a ?b ?c; (case k2 => exact rfl); (case a => kernel_rfl!); (case b => kernel_rfl!); (case c => decide +kernel)); k_whole) | (name_kind "globalImplicit"; (refine' name_K kF ?k1 ?k2 ?k3 ?_ ?a ?b ?c; (case k1 => k_asm); (case k2 => k_asm); (case k3 => k_is); (case a => kernel_rfl!); (case b => kernel_rfl!); (case c => decide +kernel); k_whole)) | (refine' name_B kF ?k1 ?k2 ?k3 ?k4 ?k5 ?_; (case k1 => k_asm); (case k2 => k_asm); (case k3 => k_is); (case k4 => boot_by_name); (case k5 => decide); k_whole)))
  k_with "call ref" => (k_here; (with_reducible show wpAny _ _ (call (Value.ref 275) _) _ _ _); k_dflt (refine' Con.use (c_take0 _ _ _ _ _ _ _ _ ?ne _ _ ?h0 ?hj ?ht) ?B ?F ?X ?N ?T ?hk ?hd ?hu ?_; (case F => k_asm); (case N => (refine' nt_pick ?N1 ?P1; (case N1 => k_asm); (case P1 => repeat' (first | exact Pick.head | refine' Pick.tail ?_)))); (case ne => k_all); (case h0 => omega); (case hj => omega); (case ht => omega); (case T => k_asm); (case X => k_asm); (case B => k_asm); (case hk => first | exact rfl | assumption); (case hd => ktr_room); (case hu => ktr_units); k_whole); intro d' i' j' td' ti' tj' h' tk' hi' hj' hd0' hd1' F' N'; (try k_sweep))
  k_with "compareOp NotEq ref ref" => (k_here; k_dflt (first | (with_reducible refine' ne_t3 ?N ?ha ?hb ?e1 ?e2 ?e3 ?hu ?_; (case N => k_asm); (case ha => k_mem); (case hb => k_mem); (case e1 => first | assumption | exact (Grey.h (by assumption) (by assumption) (by assumption)).1 | exact (Grey2.h (by assumption) (by assumption) (by assumption)).1 | rfl); (case e2 => first | assumption | exact (Grey.h (by assumption) (by assumption) (by assumption)).2.1 | exact (Grey2.h (by assumption) (by assumption) (by assumption)).2.1 | rfl); (case e3 => first | assumption | exact (Grey.h (by assumption) (by assumption) (by assumption)).2.2 | exact (Grey2.h (by assumption) (by assumption) (by assumption)).2.2 | rfl); (case hu => units_room)) | (with_reducible refine' ne_l3 ?N ?ha ?hb ?e1 ?e2 ?e3 ?hu ?_; (case N => k_asm); (case ha => k_mem); (case hb => k_mem); (case e1 => first | assumption | exact (Grey.h (by assumption) (by assumption) (by assumption)).1 | exact (Grey2.h (by assumption) (by assumption) (by assumption)).1 | rfl); (case e2 => first | assumption | exact (Grey.h (by assumption) (by assumption) (by assumption)).2.1 | exact (Grey2.h (by assumption) (by assumption) (by assumption)).2.1 | rfl); (case e3 => first | assumption | exact (Grey.h (by assumption) (by assumption) (by assumption)).2.2 | exact (Grey2.h (by assumption) (by assumption) (by assumption)).2.2 | rfl); (case hu => units_room)) | (with_reducible refine' ne_l0 ?N ?ha ?hb ?hu ?_; (case N => k_asm); (case ha => k_mem); (case hb => k_mem); (case hu => units_room))))
  k_with "compareOp Eq ref ref" => (k_here; k_dflt ((with_reducible refine' eq_l0 ?N ?ha ?hb ?hu ?_; (case N => k_asm); (case ha => k_mem); (case hb => k_mem); (case hu => units_room))))
  k_with "eval Call" => ((with_reducible show wpAny _ _ (eval (Expr.Call (Expr.Name _ _) _ [] _) (envOf _ _ _ _ _)) _ _ _); k_dflt (refine Call_ ?_))
  unfold Con
  k_fill
  intro mean mg mb dp un gd cn cs a ccd cl outer A₀ base h₀ L m s Q E B F X N T hk hd hu hret
  refine wpAny_call ?_
  k_dflt k_enter
  k_steps
  all_goals (rename Fr h₀ L _ _ => hF; rename News h₀ L _ _ => hN)
  · (rename _ ∧ _ ∧ _ ∧ _ ∧ AllLt _ _ => l1)
    refine hret _ _ _ _ _ _ _ _ _ _ _ _ _ _ ?_ ?_ ?_ ?_ ?_ hF (ntc1 hN) ?_
    all_goals first | omega | assumption | exact ⟨by omega, by omega⟩ | exact ⟨Nat.ne_of_lt l1.2.1, off1_lt l1.2.2.2.2⟩
  all_goals (
    refine hret _ _ _ _ _ _ _ _ _ _ _ _ _ _ ?_ ?_ ?_ ?_ ?_ hF (ntc2 hN) ?_
    all_goals first | omega | assumption | exact ⟨by omega, by omega⟩ | (exact most_in (by omega) (by omega) (by omega)) | (rename _ ∧ _ ∧ _ ∧ LCg.Off1 _ _ => o1; exact ⟨o1.1, o1.2.2.2⟩))
end
-- NtLight
section
open PySem PySem.W PySem.Spec PySem.Calls PyProof.Rows PySem.SeqAt
abbrev ent (w : World) (name : Str) (k : Tok) (v : Value) : DictEntry := { hash := PyData.keyHash w.params name, key := .str name k, val := v }
abbrev turnD (w : World) (a b : Str) (p : Int) (ta tb tp k1 k2 k3 : Tok) : Obj := dictOf [ent w (Str.ofString "source") k1 (.str a ta), ent w (Str.ofString "goal") k2 (.str b tb), ent w (Str.ofString "precision") k3 (.int p tp)] 3
abbrev planeD (w : World) (x y : Int) (rows : Addr) (tx ty k1 k2 k3 : Tok) : Obj := dictOf [ent w (Str.ofString "width") k1 (.int x tx), ent w (Str.ofString "height") k2 (.int y ty), ent w (Str.ofString "rows") k3 (.ref rows)] 3
abbrev picD (w : World) (a : Str) (p : Int) (planes : Addr) (ta tp k1 k2 k3 : Tok) : Obj := dictOf [ent w (Str.ofString "model") k1 (.str a ta), ent w (Str.ofString "precision") k2 (.int p tp), ent w (Str.ofString "planes") k3 (.ref planes)] 3
theorem c_light (w : World) (news : Led) (r g b : Int) (t1 t2 t3 : Tok) :
   Con w 204 [.int r t1, .int g t2, .int b t3] news 2 (fun h₀ L m Q => ∀ (y : Int) (ty : Tok) (h' : Heap) (tk' : Nat), y = fY r g b → Fr h₀ L h' m → News h₀ L h' news → Q (.int y ty) h' tk') := by
  w_top off
  k_with_none
  k_with "k_room" => skip
  k_with "units_room" => skip
  k_with "k_all" => ((with_reducible rename AllLt _ _ => hx9); first | exact allLt_ne hx9 (by (try dsimp only); omega) | (clear hx9; k_all))
  k_with "k_all" => first | assumption | exact off1_all (by assumption) | ((with_reducible rename _ ∧ AllLt _ _ => hx9); first | exact allLt_ne hx9.2 (by (try dsimp only); omega) | (clear hx9; k_all))
  k_with "k_all" => first | assumption | exact off1_all (by assumption)
  k_with "k_mem" => first | assumption | ((with_reducible (repeat' (first | exact List.mem_cons_self | assumption | refine List.mem_cons_of_mem _ ?_))); done)
  k_with "lcg_off" => first | exact True.intro | assumption | (refine And.intro (by first | assumption | exact ⟨by k_ne, by k_ne, by k_ne⟩) ?_; lcg_off)
  k_with "k_enter" => skip
  k_with "CompEnd" => (refine' nt_compEnd ?F ?N ?P1 ?P2 ?P3 ?off ?S ?_; (case F => assumption); (case N => assumption); (case P1 => repeat' (first | exact Pick.head | refine' Pick.tail ?_)); (case P2 => repeat' (first | exact Pick.head | refine' Pick.tail ?_)); (case P3 => repeat' (first | exact Pick.head | refine' Pick.tail ?_)); (case off => lcg_off); (case S => first | lcg_src | assumption))
  k_with "eval ListComp" => (k_here; (with_reducible show wpAny _ _ (eval (PySem.Expr.ListComp _ [⟨PySem.Expr.Name _ _, _, [], _⟩] _ _) _) _ _ _); (try k_fold); k_dflt (refine LCg.ListComp_U (F₀ := by k_asm) (by with_unfolding_all rfl) (by decide) (by rfl) (by decide) (by rfl) ?_))
  k_with "exec Assign cons ListComp" => (k_here; k_dflt (refine LCg.Assign_ListComp_U (F₀ := by k_asm) (by rfl) (by with_unfolding_all rfl) (by with_unfolding_all rfl) (by decide) (by rfl) (by decide) (by rfl) (by rfl) (by rfl) ?_))
  k_with "eval ListComp" => (k_here; (with_reducible show wpAny _ _ (eval (PySem.Expr.ListComp _ [⟨PySem.Expr.Name _ _, _, [_], _⟩] _ _) _) _ _ _); (try k_fold); k_dflt (refine LCt.ListComp_T (F₀ := by k_asm) (by with_unfolding_all rfl) (by decide) (by rfl) (by decide) (by rfl) ?_))
  k_with "CompSrcT" => (k_here; k_dflt (first | (refine LCt.CompSrcT.ledger (by rfl) (by k_asm) (by k_asm) (by k_mem) (by first | size_fits | exact Nat.le_of_ble_eq_true rfl) ?_; intro g'; lct_lit) | (refine LCt.CompSrcT.range (by rfl) (by k_asm) (by k_asm) (by assumption) (by first | decide | rfl) (by first | rfl | decide) (by first | size_fits | exact Nat.le_of_ble_eq_true rfl) ?_; intro g'; lct_lit)))
  k_with "CompRestT" => (with_unfolding_all first | (refine LCt.CompRestT.succ ?_; intro v' I' oI' C' oC' D' m' h' tk' E' hv' hC' hx' F' N' off' ne'; (first | lcg_open hv' | (obtain ⟨t9', hv9'⟩ := hv'; subst hv9')); (repeat (obtain ⟨ho', off'⟩ := off'))) | refine LCt.CompRestT.zero ?_)
  k_with "CompSrc" => (k_here; k_dflt (first | (refine LCg.CompSrc.ledger (by rfl) (by k_asm) (by k_asm) (by k_mem) (by first | size_fits | exact Nat.le_of_ble_eq_true rfl) ?_; intro g'; lcg_lit) | (refine LCg.CompSrc.range (by rfl) (by k_asm) (by k_asm) (by assumption) (by first | decide | rfl) (by first | rfl | decide) (by first | size_fits | exact Nat.le_of_ble_eq_true rfl) ?_; intro g'; lcg_lit)))
  k_with "CompRest" => (with_unfolding_all first | (refine LCg.CompRest.succ ?_; intro v' I' oI' C' oC' D' m' h' tk' E' hv' hC' hx' F' N' off' ne'; (first | lcg_open hv' | (obtain ⟨t9', hv9'⟩ := hv'; subst hv9')); (repeat (obtain ⟨ho', off'⟩ := off'))) | refine LCg.CompRest.zero ?_)
  k_with "execs cons" => ((with_reducible refine gen_toks (fun tk => ?_)); (with_reducible refine wpAny_execs_cons ?_); (try dsimp only); (try k_fold))
  k_with "subscriptTail" => (k_here; (with_reducible show wpAny _ _ (subscriptTail _ _ (Value.ref _) (Value.int _ _)) _ _ _); k_dflt (first | (refine' nt_item ?N ?hm ?k2 ?k3 ?k4 ?_ ?k6; (case N => k_asm); (case hm => k_mem); (case k2 => decide); (case k3 => decide); (case k4 => exact rfl); (case k6 => with_unfolding_all rfl); k_whole) | (refine' nt_itemK ?X ?F ?hl ?k2 ?k3 ?k4 ?_ ?k6 ?k7; (case F => k_asm); (case X => k_asm); (case hl => k_is); (case k2 => decide); (case k3 => decide); (case k4 => exact rfl); (case k6 => with_unfolding_all rfl); (case k7 => intro _; with_unfolding_all rfl); k_whole) | (refine' nt_itemT ?N ?hm ?k2 ?k3 ?k4 ?_ ?k6 ?k7; (case N => k_asm); (case hm => k_mem); (case k2 => decide); (case k3 => decide); (case k4 => exact rfl); (case k6 => with_unfolding_all rfl); (case k7 => intro _; with_unfolding_all rfl); k_whole)))
  k_with "subscriptTail Name Constant ref int" => (k_here; (with_reducible show wpAny _ _ (subscriptTail _ _ (Value.ref _) (Value.int _ _)) _ _ _); k_dflt (first | (refine' nt_item ?N ?hm ?k2 ?k3 ?k4 ?_ ?k6; (case N => k_asm); (case hm => k_mem); (case k2 => decide); (case k3 => decide); (case k4 => exact rfl); (case k6 => with_unfolding_all rfl); k_whole) | (refine' nt_itemK ?X ?F ?hl ?k2 ?k3 ?k4 ?_ ?k6 ?k7; (case F => k_asm); (case X => k_asm); (case hl => k_is); (case k2 => decide); (case k3 => decide); (case k4 => exact rfl); (case k6 => with_unfolding_all rfl); (case k7 => intro _; with_unfolding_all rfl); k_whole) | (refine' nt_itemT ?N ?hm ?k2 ?k3 ?k4 ?_ ?k6 ?k7; (case N => k_asm); (case hm => k_mem); (case k2 => decide); (case k3 => decide); (case k4 => exact rfl); (case k6 => with_unfolding_all rfl); (case k7 => intro _; with_unfolding_all rfl); k_whole)))
  k_with "subscriptTail Name Name ref int" => (k_here; (with_reducible show wpAny _ _ (subscriptTail _ _ (Value.ref _) (Value.int _ _)) _ _ _); k_dflt (first | (refine' nt_item ?N ?hm ?k2 ?k3 ?k4 ?_ ?k6; (case N => k_asm); (case hm => k_mem); (case k2 => decide); (case k3 => decide); (case k4 => exact rfl); (case k6 => with_unfolding_all rfl); k_whole) | (refine' nt_itemK ?X ?F ?hl ?k2 ?k3 ?k4 ?_ ?k6 ?k7; (case F => k_asm); (case X => k_asm); (case hl => k_is); (case k2 => decide); (case k3 => decide); (case k4 => exact rfl); (case k6 => with_unfolding_all rfl); (case k7 => intro _; with_unfolding_all rfl); k_whole) | (refine' nt_itemT ?N ?hm ?k2 ?k3 ?k4 ?_ ?k6 ?k7; (case N => k_asm); (case hm => k_mem); (case k2 => decide); (case k3 => decide); (case k4 => exact rfl); (case k6 => with_unfolding_all rfl); (case k7 => intro _; with_unfolding_all rfl); k_whole)))
  k_with "subscriptTail Attribute Name Constant ref int" => (k_here; (with_reducible show wpAny _ _ (subscriptTail _ _ (Value.ref _) (Value.int _ _)) _ _ _); k_dflt (first | (refine' nt_item ?N ?hm ?k2 ?k3 ?k4 ?_ ?k6; (case N => k_asm); (case hm => k_mem); (case k2 => decide); (case k3 => decide); (case k4 => exact rfl); (case k6 => with_unfolding_all rfl); k_whole) | (refine' nt_itemK ?X ?F ?hl ?k2 ?k3 ?k4 ?_ ?k6 ?k7; (case F => k_asm); (case X => k_asm); (case hl => k_is); (case k2 => decide); (case k3 => decide); (case k4 => exact rfl); (case k6 => with_unfolding_all rfl); (case k7 => intro _; with_unfolding_all rfl); k_whole) | (refine' nt_itemT ?N ?hm ?k2 ?k3 ?k4 ?_ ?k6 ?k7; (case N => k_asm); (case hm => k_mem); (case k2 => decide); (case k3 => decide); (case k4 => exact rfl); (case k6 => with_unfolding_all rfl); (case k7 => intro _; with_unfolding_all rfl); k_whole)))
  k_with "subscriptTail Attribute Name Name ref int" => (k_here; (with_reducible show wpAny _ _ (subscriptTail _ _ (Value.ref _) (Value.int _ _)) _ _ _); k_dflt (first | (refine' nt_item ?N ?hm ?k2 ?k3 ?k4 ?_ ?k6; (case N => k_asm); (case hm => k_mem); (case k2 => decide); (case k3 => decide); (case k4 => exact rfl); (case k6 => with_unfolding_all rfl); k_whole) | (refine' nt_itemK ?X ?F ?hl ?k2 ?k3 ?k4 ?_ ?k6 ?k7; (case F => k_asm); (case X => k_asm); (case hl => k_is); (case k2 => decide); (case k3 => decide); (case k4 => exact rfl); (case k6 => with_unfolding_all rfl); (case k7 => intro _; with_unfolding_all rfl); k_whole) | (refine' nt_itemT ?N ?hm ?k2 ?k3 ?k4 ?_ ?k6 ?k7; (case N => k_asm); (case hm => k_mem); (case k2 => decide); (case k3 => decide); (case k4 => exact rfl); (case k6 => with_unfolding_all rfl); (case k7 => intro _; with_unfolding_all rfl); k_whole)))
  k_with "subscriptTail Subscript Name ref int" => (k_here; (with_reducible show wpAny _ _ (subscriptTail _ _ (Value.ref _) (Value.int _ _)) _ _ _); k_dflt (first | (refine' nt_item ?N ?hm ?k2 ?k3 ?k4 ?_ ?k6; (case N => k_asm); (case hm => k_mem); (case k2 => decide); (case k3 => decide); (case k4 => exact rfl); (case k6 => with_unfolding_all rfl); k_whole) | (refine' nt_itemK ?X ?F ?hl ?k2 ?k3 ?k4 ?_ ?k6 ?k7; (case F => k_asm); (case X => k_asm); (case hl => k_is); (case k2 => decide); (case k3 => decide); (case k4 => exact rfl); (case k6 => with_unfolding_all rfl); (case k7 => intro _; with_unfolding_all rfl); k_whole) | (refine' nt_itemT ?N ?hm ?k2 ?k3 ?k4 ?_ ?k6 ?k7; (case N => k_asm); (case hm => k_mem); (case k2 => decide); (case k3 => decide); (case k4 => exact rfl); (case k6 => with_unfolding_all rfl); (case k7 => intro _; with_unfolding_all rfl); k_whole)))
  k_with "subscriptTail Subscript Constant ref int" => (k_here; (with_reducible show wpAny _ _ (subscriptTail _ _ (Value.ref _) (Value.int _ _)) _ _ _); k_dflt (first | (refine' nt_item ?N ?hm ?k2 ?k3 ?k4 ?_ ?k6; (case N => k_asm); (case hm => k_mem); (case k2 => decide); (case k3 => decide); (case k4 => exact rfl); (case k6 => with_unfolding_all rfl); k_whole) | (refine' nt_itemK ?X ?F ?hl ?k2 ?k3 ?k4 ?_ ?k6 ?k7; (case F => k_asm); (case X => k_asm); (case hl => k_is); (case k2 => decide); (case k3 => decide); (case k4 => exact rfl); (case k6 => with_unfolding_all rfl); (case k7 => intro _; with_unfolding_all rfl); k_whole) | (refine' nt_itemT ?N ?hm ?k2 ?k3 ?k4 ?_ ?k6 ?k7; (case N => k_asm); (case hm => k_mem); (case k2 => decide); (case k3 => decide); (case k4 => exact rfl); (case k6 => with_unfolding_all rfl); (case k7 => intro _; with_unfolding_all rfl); k_whole)))
  k_with "setItem ref int" => (k_here; k_dflt (refine' ki_set ?F ?N ?k2 ?k3 ?k4 ?U ?_; (case F => k_asm); (case N => k_asm); (case U => k_upd); (case k2 => decide); (case k3 => decide); (case k4 => exact rfl); k_whole); intro h' F' N'; (try k_sweep))
  k_with "eval Name" => (k_here; (with_reducible show wpAny _ _ (eval (Expr.Name _ _) (envOf _ _ _ _ _)) _ _ _); (with_reducible rename Fr _ _ _ _ => kF); k_dflt (first | (name_kind "local"; (refine' ld kF ?k2 ?_ ?a ?b ?c; (case k2 => exact rfl); (case a => kernel_rfl!); (case b => kernel_rfl!); (case c => decide +kernel)); k_whole) | (name_kind "globalImplicit"; (refine' name_K kF ?k1 ?k2 ?k3 ?_ ?a ?b ?c; (case k1 => k_asm); (case k2 => k_asm); (case k3 => k_is); (case a => kernel_rfl!); (case b => kernel_rfl!); (case c => decide +kernel); k_whole)) | (refine' name_B kF ?k1 ?k2 ?k3 ?k4 ?k5 ?_; (case k1 => k_asm); (case k2 => k_asm); (case k3 => k_is); (case k4 => boot_by_name); (case k5 => decide); k_whole)))
  k_with "compareOp NotEq ref ref" => (k_here; k_dflt (first | (with_reducible refine' ne_t3 ?N ?ha ?hb ?e1 ?e2 ?e3 ?hu ?_; (case N => k_asm); (case ha => k_mem); (case hb => k_mem); (case e1 => first | assumption | exact (Grey.h (by assumption) (by assumption) (by assumption)).1 | exact (Grey2.h (by assumption) (by assumption) (by assumption)).1 | rfl); (case e2 => first | assumption | exact (Grey.h (by assumption) (by assumption) (by assumption)).2.1 | exact (Grey2.h (by assumption) (by assumption) (by assumption)).2.1 | rfl); (case e3 => first | assumption | exact (Grey.h (by assumption) (by assumption) (by assumption)).2.2 | exact (Grey2.h (by assumption) (by assumption) (by assumption)).2.2 | rfl); (case hu => units_room)) | (with_reducible refine' ne_l3 ?N ?ha ?hb ?e1 ?e2 ?e3 ?hu ?_; (case N => k_asm); (case ha => k_mem); (case hb => k_mem); (case e1 => first | assumption | exact (Grey.h (by assumption) (by assumption) (by assumption)).1 | exact (Grey2.h (by assumption) (by assumption) (by assumption)).1 | rfl); (case e2 => first | assumption | exact (Grey.h (by assumption) (by assumption) (by assumption)).2.1 | exact (Grey2.h (by assumption) (by assumption) (by assumption)).2.1 | rfl); (case e3 => first | assumption | exact (Grey.h (by assumption) (by assumption) (by assumption)).2.2 | exact (Grey2.h (by assumption) (by assumption) (by assumption)).2.2 | rfl); (case hu => units_room)) | (with_reducible refine' ne_l0 ?N ?ha ?hb ?hu ?_; (case N => k_asm); (case ha => k_mem); (case hb => k_mem); (case hu => units_room))))
  k_with "compareOp Eq ref ref" => (k_here; k_dflt ((with_reducible refine' eq_l0 ?N ?ha ?hb ?hu ?_; (case N => k_asm); (case ha => k_mem); (case hb => k_mem); (case hu => units_room))))
  k_with "eval Call" => ((with_reducible show wpAny _ _ (eval (Expr.Call (Expr.Name _ _) _ [] _) (envOf _ _ _ _ _)) _ _ _); k_dflt (refine Call_ ?_))
  k_with "call ref" => (k_here; (with_reducible show wpAny _ _ (call (Value.ref 147) _) _ _ _); k_dflt (refine' Con.use (c_mid _ _ _ _ ?hp) ?B ?F ?X ?N ?T ?hk ?hd ?hu ?_; (case F => k_asm); (case N => k_asm); (case hp => first | assumption | omega); (case T => k_asm); (case X => k_asm); (case B => k_asm); (case hk => first | exact rfl | assumption); (case hd => ktr_room); (case hu => ktr_units); k_whole); intro M' t' h' tk' hM' hM1' hM2' F' N'; (try k_sweep))
  k_with "call ref" => (k_here; (with_reducible show wpAny _ _ (call (Value.ref 140) _) _ _ _); k_dflt (refine' Con.use (c_most _ _ _ _ ?hp) ?B ?F ?X ?N ?T ?hk ?hd ?hu ?_; (case F => k_asm); (case N => k_asm); (case hp => first | assumption | omega); (case T => k_asm); (case X => k_asm); (case B => k_asm); (case hk => first | exact rfl | assumption); (case hd => ktr_room); (case hu => ktr_units); k_whole); intro M' t' h' tk' hM' hM1' hM2' F' N'; (try k_sweep))
  k_with "call ref" => (k_here; (with_reducible show wpAny _ _ (call (Value.ref 154) _) _ _ _); k_dflt (refine' Con.use (c_clamp _ _ _ _ _ _) ?B ?F ?X ?N ?T ?hk ?hd ?hu ?_; (case F => k_asm); (case N => k_asm); (case T => k_asm); (case X => k_asm); (case B => k_asm); (case hk => first | exact rfl | assumption); (case hd => ktr_room); (case hu => ktr_units); k_whole); intro x' t' h' tk' hX' F' N'; (try k_sweep))
  k_with "binaryOp Pow int int" => (k_here; k_dflt (first | (refine' nt_pow ?hp ?_; (case hp => first | assumption | omega)) | (refine' nt_pow1 ?hp ?_; (case hp => first | assumption | omega))))
  k_with "call ref" => (k_here; (with_reducible show wpAny _ _ (call (Value.ref 176) _) _ _ _); k_dflt (refine' Con.use (c_ycc _ _ _ _ _ _ _ _ _ _ ?hp ?hr ?hg ?hb) ?B ?F ?X ?N ?T ?hk ?hd ?hu ?_; (case F => k_asm); (case N => k_asm); (case hp => assumption); (case hr => omega); (case hg => omega); (case hb => omega); (case T => k_asm); (case X => k_asm); (case B => k_asm); (case hk => first | exact rfl | assumption); (case hd => ktr_room); (case hu => ktr_units); k_whole); intro D' y' cb' cr' ty' tb' tr' c' h' tk' hy' hcb' hcr' F' N' l1'; (try k_lt l1'); (try (have hYc : YccIs _ _ _ _ _ _ _ := ⟨by assumption, by assumption, by assumption, by assumption, hy', hcb', hcr'⟩; have hYk := hYc.ok; have hGy := Grey.of hYk; obtain ⟨yk1, yk2, yk3, yk4, yk5, yk6, yk7, yk8, yk9, yk10, yk11, yk12, -⟩ := hYk)); (try k_sweep))
  k_with "call ref" => (k_here; (with_reducible show wpAny _ _ (call (Value.ref 183) _) _ _ _); k_dflt (refine' Con.use (c_rgb _ _ _ _ _ _ _ _ _ _ ?hp ?hr ?hg ?hb) ?B ?F ?X ?N ?T ?hk ?hd ?hu ?_; (case F => k_asm); (case N => k_asm); (case hp => assumption); (case hr => omega); (case hg => omega); (case hb => omega); (case T => k_asm); (case X => k_asm); (case B => k_asm); (case hk => first | exact rfl | assumption); (case hd => ktr_room); (case hu => ktr_units); k_whole); intro D' y' cb' cr' ty' tb' tr' c' h' tk' hy' hcb' hcr' F' N' l1'; (try k_lt l1'); (try (have hBk := YccIs.back (by assumption) hy' hcb' hcr'; have hGb := Grey2.of hBk; obtain ⟨bk1, bk2, bk3, bk4, bk5, bk6, -⟩ := hBk)); (try k_sweep))
  k_with "call ref" => (k_here; (with_reducible show wpAny _ _ (call (Value.ref 190) _) _ _ _); k_dflt (refine' Con.use (c_ycck _ _ _ _ _ _ _ _ _ _ _ _ ?hp ?hr ?hg ?hb) ?B ?F ?X ?N ?T ?hk ?hd ?hu ?_; (case F => k_asm); (case N => k_asm); (case hp => assumption); (case hr => first | assumption | omega); (case hg => first | assumption | omega); (case hb => first | assumption | omega); (case T => k_asm); (case X => k_asm); (case B => k_asm); (case hk => first | exact rfl | assumption); (case hd => ktr_room); (case hu => ktr_units); k_whole); intro D' y' cb' cr' ty' tb' tr' tk9' c' h' tk' hy' hcb' hcr' F' N' l1'; (try k_lt l1'); (try (have hYc : YccIs _ _ _ _ _ _ _ := ⟨by assumption, by omega, by omega, by omega, hy', hcb', hcr'⟩; have hYk := hYc.ok; obtain ⟨yk1, yk2, yk3, yk4, yk5, yk6, yk7, yk8, yk9, yk10, yk11, yk12, -⟩ := hYk)); (try k_sweep))
  k_with "call ref" => (k_here; (with_reducible show wpAny _ _ (call (Value.ref 197) _) _ _ _); k_dflt (refine' Con.use (c_cmyk _ _ _ _ _ _ _ _ _ _ _ _ ?hp ?hr ?hg ?hb) ?B ?F ?X ?N ?T ?hk ?hd ?hu ?_; (case F => k_asm); (case N => k_asm); (case hp => assumption); (case hr => omega); (case hg => omega); (case hb => omega); (case T => k_asm); (case X => k_asm); (case B => k_asm); (case hk => first | exact rfl | assumption); (case hd => ktr_room); (case hu => ktr_units); k_whole); intro D' y' cb' cr' ty' tb' tr' tk9' c' h' tk' hy' hcb' hcr' F' N' l1'; (try k_lt l1'); (try (have hBk := YccIs.back (by assumption) hy' hcb' hcr'; obtain ⟨bk1, bk2, bk3, bk4, bk5, bk6, -⟩ := hBk)); (try k_sweep))
  unfold Con
  k_fill
  intro mean mg mb dp un gd cn cs a ccd cl outer A₀ base h₀ L m s Q E B F X N T hk hd hu hret
  refine wpAny_call ?_
  k_dflt k_enter
  k_steps
  all_goals (rename Fr h₀ L _ _ => hF; rename News h₀ L _ _ => hN)
  exact hret _ _ _ _ (by unfold fY; rw [fd16]) hF hN
theorem c_turning (w : World) (news : Led) (a b : Str) (p : Int) (t1 t2 t3 : Tok) :
   Con w 228 [.str a t1, .str b t2, .int p t3] news 4 (fun h₀ L m Q => ∀ (x d : Addr) (k1 k2 k3 : Tok) (h' : Heap) (tk' : Nat), Fr h₀ L h' m → News h₀ L h' ((x, instObj 228 d) :: (d, turnD w a b p t1 t2 t3 k1 k2 k3) :: news) → @LT.lt Nat _ d x → AllLt d news → AllLt x news → Q (.ref x) h' tk') := by
  unfold Con
  k_fill
  intro mean mg mb dp un gd cn cs aa ccd cl outer A₀ base h₀ L m s Q E B F X N T hk hd hu hret
  k_steps
  all_goals (rename Fr h₀ L _ _ => hF; rename News h₀ L _ _ => hN)
  (rename ∀ (p : Addr × Obj), p ∈ _ → p.1 < _ => l1)
  (rename _ < _ => l2)
  exact hret _ _ _ _ _ _ _ hF hN l2 (allLt_of l1) (allLt_of fun p hp => Nat.lt_trans (l1 p hp) l2)
theorem c_plane (w : World) (news : Led) (p q : Int) (rl : Addr) (t1 t2 : Tok) :
   Con w 84 [.int p t1, .int q t2, .ref rl] news 4 (fun h₀ L m Q => ∀ (x d : Addr) (k1 k2 k3 : Tok) (h' : Heap) (tk' : Nat), Fr h₀ L h' m → News h₀ L h' ((x, instObj 84 d) :: (d, planeD w p q rl t1 t2 k1 k2 k3) :: news) → @LT.lt Nat _ d x → AllLt d news → AllLt x news → Q (.ref x) h' tk') := by
  unfold Con
  k_fill
  intro mean mg mb dp un gd cn cs aa ccd cl outer A₀ base h₀ L m s Q E B F X N T hk hd hu hret
  k_steps
  all_goals (rename Fr h₀ L _ _ => hF; rename News h₀ L _ _ => hN)
  (rename ∀ (p : Addr × Obj), p ∈ _ → p.1 < _ => l1)
  (rename _ < _ => l2)
  exact hret _ _ _ _ _ _ _ hF hN l2 (allLt_of l1) (allLt_of fun p hp => Nat.lt_trans (l1 p hp) l2)
theorem c_pic (w : World) (news : Led) (a : Str) (p : Int) (pl : Addr) (t1 t2 : Tok) :
   Con w 122 [.str a t1, .int p t2, .ref pl] news 4 (fun h₀ L m Q => ∀ (x d : Addr) (k1 k2 k3 : Tok) (h' : Heap) (tk' : Nat), Fr h₀ L h' m → News h₀ L h' ((x, instObj 122 d) :: (d, picD w a p pl t1 t2 k1 k2 k3) :: news) → @LT.lt Nat _ d x → AllLt d news → AllLt x news → Q (.ref x) h' tk') := by
  unfold Con
  k_fill
  intro mean mg mb dp un gd cn cs aa ccd cl outer A₀ base h₀ L m s Q E B F X N T hk hd hu hret
  k_steps
  all_goals (rename Fr h₀ L _ _ => hF; rename News h₀ L _ _ => hN)
  (rename ∀ (p : Addr × Obj), p ∈ _ → p.1 < _ => l1)
  (rename _ < _ => l2)
  exact hret _ _ _ _ _ _ _ hF hN l2 (allLt_of l1) (allLt_of fun p hp => Nat.lt_trans (l1 p hp) l2)
end
-- NtSamp
section
open PySem PySem.W PySem.Spec PySem.Calls PyProof.Rows PySem.SeqAt
theorem c_samp_ycc (w : World) (news : Led) (tu dx l : Addr) (a : Str) (r g b p : Int) (t1 t2 t3 ta tb tp k1 k2 k3 : Tok) (c : Nat) (hm1 : (tu, instObj 228 dx) ∈ news) (hm2 : (dx, turnD w a (Str.ofString "ycc") p ta tb tp k1 k2 k3) ∈ news) (hm3 : (l, listOf #[.int r t1, .int g t2, .int b t3] c) ∈ news) (hp : 2 ≤ p ∧ p ≤ 8) (hr : 0 ≤ r ∧ r ≤ 2 * mid p - 1) (hg : 0 ≤ g ∧ g ≤ 2 * mid p - 1) (hb : 0 ≤ b ∧ b ≤ 2 * mid p - 1) :
   Con w 225 [.ref tu, .ref l] news 6 (fun h₀ L m Q => ∀ (D : Addr) (y cb cr : Int) (ty tb tr : Tok) (c : Nat) (h' : Heap) (tk' : Nat), y = fY r g b → cb = fCb (mid p) r g b → cr = fCr (mid p) r g b → Fr h₀ L h' m → News h₀ L h' ((D, tupOf #[.int y ty, .int cb tb, .int cr tr] c) :: news) → AllLt D news → Q (.ref D) h' tk') := by
  w_top off
  k_with_none
  k_with "k_room" => skip
  k_with "units_room" => skip
  k_with "k_all" => ((with_reducible rename AllLt _ _ => hx9); first | exact allLt_ne hx9 (by (try dsimp only); omega) | (clear hx9; k_all))
  k_with "k_all" => first | assumption | exact off1_all (by assumption) | ((with_reducible rename _ ∧ AllLt _ _ => hx9); first | exact allLt_ne hx9.2 (by (try dsimp only); omega) | (clear hx9; k_all))
  k_with "k_all" => first | assumption | exact off1_all (by assumption)
  k_with "k_mem" => first | assumption | ((with_reducible (repeat' (first | exact List.mem_cons_self | assumption | refine List.mem_cons_of_mem _ ?_))); done)
  k_with "lcg_off" => first | exact True.intro | assumption | (refine And.intro (by first | assumption | exact ⟨by k_ne, by k_ne, by k_ne⟩) ?_; lcg_off)
  k_with "k_enter" => skip
  k_with "CompEnd" => (refine' nt_compEnd ?F ?N ?P1 ?P2 ?P3 ?off ?S ?_; (case F => assumption); (case N => assumption); (case P1 => repeat' (first | exact Pick.head | refine' Pick.tail ?_)); (case P2 => repeat' (first | exact Pick.head | refine' Pick.tail ?_)); (case P3 => repeat' (first | exact Pick.head | refine' Pick.tail ?_)); (case off => lcg_off); (case S => first | lcg_src | assumption))
  k_with "eval ListComp" => (k_here; (with_reducible show wpAny _ _ (eval (PySem.Expr.ListComp _ [⟨PySem.Expr.Name _ _, _, [], _⟩] _ _) _) _ _ _); (try k_fold); k_dflt (refine LCg.ListComp_U (F₀ := by k_asm) (by with_unfolding_all rfl) (by decide) (by rfl) (by decide) (by rfl) ?_))
  k_with "exec Assign cons ListComp" => (k_here; k_dflt (refine LCg.Assign_ListComp_U (F₀ := by k_asm) (by rfl) (by with_unfolding_all rfl) (by with_unfolding_all rfl) (by decide) (by rfl) (by decide) (by rfl) (by rfl) (by rfl) ?_))
  k_with "eval ListComp" => (k_here; (with_reducible show wpAny _ _ (eval (PySem.Expr.ListComp _ [⟨PySem.Expr.Name _ _, _, [_], _⟩] _ _) _) _ _ _); (try k_fold); k_dflt (refine LCt.ListComp_T (F₀ := by k_asm) (by with_unfolding_all rfl) (by decide) (by rfl) (by decide) (by rfl) ?_))
  k_with "CompSrcT" => (k_here; k_dflt (first | (refine LCt.CompSrcT.ledger (by rfl) (by k_asm) (by k_asm) (by k_mem) (by first | size_fits | exact Nat.le_of_ble_eq_true rfl) ?_; intro g'; lct_lit) | (refine LCt.CompSrcT.range (by rfl) (by k_asm) (by k_asm) (by assumption) (by first | decide | rfl) (by first | rfl | decide) (by first | size_fits | exact Nat.le_of_ble_eq_true rfl) ?_; intro g'; lct_lit)))
  k_with "CompRestT" => (with_unfolding_all first | (refine LCt.CompRestT.succ ?_; intro v' I' oI' C' oC' D' m' h' tk' E' hv' hC' hx' F' N' off' ne'; (first | lcg_open hv' | (obtain ⟨t9', hv9'⟩ := hv'; subst hv9')); (repeat (obtain ⟨ho', off'⟩ := off'))) | refine LCt.CompRestT.zero ?_)
  k_with "CompSrc" => (k_here; k_dflt (first | (refine LCg.CompSrc.ledger (by rfl) (by k_asm) (by k_asm) (by k_mem) (by first | size_fits | exact Nat.le_of_ble_eq_true rfl) ?_; intro g'; lcg_lit) | (refine LCg.CompSrc.range (by rfl) (by k_asm) (by k_asm) (by assumption) (by first | decide | rfl) (by first | rfl | decide) (by first | size_fits | exact Nat.le_of_ble_eq_true rfl) ?_; intro g'; lcg_lit)))
  k_with "CompRest" => (with_unfolding_all first | (refine LCg.CompRest.succ ?_; intro v' I' oI' C' oC' D' m' h' tk' E' hv' hC' hx' F' N' off' ne'; (first | lcg_open hv' | (obtain ⟨t9', hv9'⟩ := hv'; subst hv9')); (repeat (obtain ⟨ho', off'⟩ := off'))) | refine LCg.CompRest.zero ?_)
  k_with "execs cons" => ((with_reducible refine gen_toks (fun tk => ?_)); (with_reducible refine wpAny_execs_cons ?_); (try dsimp only); (try k_fold))
  k_with "subscriptTail" => (k_here; (with_reducible show wpAny _ _ (subscriptTail _ _ (Value.ref _) (Value.int _ _)) _ _ _); k_dflt (first | (refine' nt_item ?N ?hm ?k2 ?k3 ?k4 ?_ ?k6; (case N => k_asm); (case hm => k_mem); (case k2 => decide); (case k3 => decide); (case k4 => exact rfl); (case k6 => with_unfolding_all rfl); k_whole) | (refine' nt_itemK ?X ?F ?hl ?k2 ?k3 ?k4 ?_ ?k6 ?k7; (case F => k_asm); (case X => k_asm); (case hl => k_is); (case k2 => decide); (case k3 => decide); (case k4 => exact rfl); (case k6 => with_unfolding_all rfl); (case k7 => intro _; with_unfolding_all rfl); k_whole) | (refine' nt_itemT ?N ?hm ?k2 ?k3 ?k4 ?_ ?k6 ?k7; (case N => k_asm); (case hm => k_mem); (case k2 => decide); (case k3 => decide); (case k4 => exact rfl); (case k6 => with_unfolding_all rfl); (case k7 => intro _; with_unfolding_all rfl); k_whole)))
  k_with "subscriptTail Name Constant ref int" => (k_here; (with_reducible show wpAny _ _ (subscriptTail _ _ (Value.ref _) (Value.int _ _)) _ _ _); k_dflt (first | (refine' nt_item ?N ?hm ?k2 ?k3 ?k4 ?_ ?k6; (case N => k_asm); (case hm => k_mem); (case k2 => decide); (case k3 => decide); (case k4 => exact rfl); (case k6 => with_unfolding_all rfl); k_whole) | (refine' nt_itemK ?X ?F ?hl ?k2 ?k3 ?k4 ?_ ?k6 ?k7; (case F => k_asm); (case X => k_asm); (case hl => k_is); (case k2 => decide); (case k3 => decide); (case k4 => exact rfl); (case k6 => with_unfolding_all rfl); (case k7 => intro _; with_unfolding_all rfl); k_whole) | (refine' nt_itemT ?N ?hm ?k2 ?k3 ?k4 ?_ ?k6 ?k7; (case N => k_asm); (case hm => k_mem); (case k2 => decide); (case k3 => decide); (case k4 => exact rfl); (case k6 => with_unfolding_all rfl); (case k7 => intro _; with_unfolding_all rfl); k_whole)))
  k_with "subscriptTail Name Name ref int" => (k_here; (with_reducible show wpAny _ _ (subscriptTail _ _ (Value.ref _) (Value.int _ _)) _ _ _); k_dflt (first | (refine' nt_item ?N ?hm ?k2 ?k3 ?k4 ?_ ?k6; (case N => k_asm); (case hm => k_mem); (case k2 => decide); (case k3 => decide); (case k4 => exact rfl); (case k6 => with_unfolding_all rfl); k_whole) | (refine' nt_itemK ?X ?F ?hl ?k2 ?k3 ?k4 ?_ ?k6 ?k7; (case F => k_asm); (case X => k_asm); (case hl => k_is); (case k2 => decide); (case k3 => decide); (case k4 => exact rfl); (case k6 => with_unfolding_all rfl); (case k7 => intro _; with_unfolding_all rfl); k_whole) | (refine' nt_itemT ?N ?hm ?k2 ?k3 ?k4 ?_ ?k6 ?k7; (case N => k_asm); (case hm => k_mem); (case k2 => decide); (case k3 => decide); (case k4 => exact rfl); (case k6 => with_unfolding_all rfl); (case k7 => intro _; with_unfolding_all rfl); k_whole)))
  k_with "subscriptTail Attribute Name Constant ref int" => (k_here; (with_reducible show wpAny _ _ (subscriptTail _ _ (Value.ref _) (Value.int _ _)) _ _ _); k_dflt (first | (refine' nt_item ?N ?hm ?k2 ?k3 ?k4 ?_ ?k6; (case N => k_asm); (case hm => k_mem); (case k2 => decide); (case k3 => decide); (case k4 => exact rfl); (case k6 => with_unfolding_all rfl); k_whole) | (refine' nt_itemK ?X ?F ?hl ?k2 ?k3 ?k4 ?_ ?k6 ?k7; (case F => k_asm); (case X => k_asm); (case hl => k_is); (case k2 => decide); (case k3 => decide); (case k4 => exact rfl); (case k6 => with_unfolding_all rfl); (case k7 => intro _; with_unfolding_all rfl); k_whole) | (refine' nt_itemT ?N ?hm ?k2 ?k3 ?k4 ?_ ?k6 ?k7; (case N => k_asm); (case hm => k_mem); (case k2 => decide); (case k3 => decide); (case k4 => exact rfl); (case k6 => with_unfolding_all rfl); (case k7 => intro _; with_unfolding_all rfl); k_whole)))
  k_with "subscriptTail Attribute Name Name ref int" => (k_here; (with_reducible show wpAny _ _ (subscriptTail _ _ (Value.ref _) (Value.int _ _)) _ _ _); k_dflt (first | (refine' nt_item ?N ?hm ?k2 ?k3 ?k4 ?_ ?k6; (case N => k_asm); (case hm => k_mem); (case k2 => decide); (case k3 => decide); (case k4 => exact rfl); (case k6 => with_unfolding_all rfl); k_whole) | (refine' nt_itemK ?X ?F ?hl ?k2 ?k3 ?k4 ?_ ?k6 ?k7; (case F => k_asm); (case X => k_asm); (case hl => k_is); (case k2 => decide); (case k3 => decide); (case k4 => exact rfl); (case k6 => with_unfolding_all rfl); (case k7 => intro _; with_unfolding_all rfl); k_whole) | (refine' nt_itemT ?N ?hm ?k2 ?k3 ?k4 ?_ ?k6 ?k7; (case N => k_asm); (case hm => k_mem); (case k2 => decide); (case k3 => decide); (case k4 => exact rfl); (case k6 => with_unfolding_all rfl); (case k7 => intro _; with_unfolding_all rfl); k_whole)))
  k_with "subscriptTail Subscript Name ref int" => (k_here; (with_reducible show wpAny _ _ (subscriptTail _ _ (Value.ref _) (Value.int _ _)) _ _ _); k_dflt (first | (refine' nt_item ?N ?hm ?k2 ?k3 ?k4 ?_ ?k6; (case N => k_asm); (case hm => k_mem); (case k2 => decide); (case k3 => decide); (case k4 => exact rfl); (case k6 => with_unfolding_all rfl); k_whole) | (refine' nt_itemK ?X ?F ?hl ?k2 ?k3 ?k4 ?_ ?k6 ?k7; (case F => k_asm); (case X => k_asm); (case hl => k_is); (case k2 => decide); (case k3 => decide); (case k4 => exact rfl); (case k6 => with_unfolding_all rfl); (case k7 => intro _; with_unfolding_all rfl); k_whole) | (refine' nt_itemT ?N ?hm ?k2 ?k3 ?k4 ?_ ?k6 ?k7; (case N => k_asm); (case hm => k_mem); (case k2 => decide); (case k3 => decide); (case k4 => exact rfl); (case k6 => with_unfolding_all rfl); (case k7 => intro _; with_unfolding_all rfl); k_whole)))
  k_with "subscriptTail Subscript Constant ref int" => (k_here; (with_reducible show wpAny _ _ (subscriptTail _ _ (Value.ref _) (Value.int _ _)) _ _ _); k_dflt (first | (refine' nt_item ?N ?hm ?k2 ?k3 ?k4 ?_ ?k6; (case N => k_asm); (case hm => k_mem); (case k2 => decide); (case k3 => decide); (case k4 => exact rfl); (case k6 => with_unfolding_all rfl); k_whole) | (refine' nt_itemK ?X ?F ?hl ?k2 ?k3 ?k4 ?_ ?k6 ?k7; (case F => k_asm); (case X => k_asm); (case hl => k_is); (case k2 => decide); (case k3 => decide); (case k4 => exact rfl); (case k6 => with_unfolding_all rfl); (case k7 => intro _; with_unfolding_all rfl); k_whole) | (refine' nt_itemT ?N ?hm ?k2 ?k3 ?k4 ?_ ?k6 ?k7; (case N => k_asm); (case hm => k_mem); (case k2 => decide); (case k3 => decide); (case k4 => exact rfl); (case k6 => with_unfolding_all rfl); (case k7 => intro _; with_unfolding_all rfl); k_whole)))
  k_with "setItem ref int" => (k_here; k_dflt (refine' ki_set ?F ?N ?k2 ?k3 ?k4 ?U ?_; (case F => k_asm); (case N => k_asm); (case U => k_upd); (case k2 => decide); (case k3 => decide); (case k4 => exact rfl); k_whole); intro h' F' N'; (try k_sweep))
  k_with "eval Name" => (k_here; (with_reducible show wpAny _ _ (eval (Expr.Name _ _) (envOf _ _ _ _ _)) _ _ _); (with_reducible rename Fr _ _ _ _ => kF); k_dflt (first | (name_kind "local"; (refine' ld kF ?k2 ?_ ?a ?b ?c; (case k2 => exact rfl); (case a => kernel_rfl!); (case b => kernel_rfl!); (case c => decide +kernel)); k_whole) | (name_kind "globalImplicit"; (refine' name_K kF ?k1 ?k2 ?k3 ?_ ?a ?b ?c; (case k1 => k_asm); (case k2 => k_asm); (case k3 => k_is); (case a => kernel_rfl!); (case b => kernel_rfl!); (case c => decide +kernel); k_whole)) | (refine' name_B kF ?k1 ?k2 ?k3 ?k4 ?k5 ?_; (case k1 => k_asm); (case k2 => k_asm); (case k3 => k_is); (case k4 => boot_by_name); (case k5 => decide); k_whole)))
  k_with "compareOp NotEq ref ref" => (k_here; k_dflt (first | (with_reducible refine' ne_t3 ?N ?ha ?hb ?e1 ?e2 ?e3 ?hu ?_; (case N => k_asm); (case ha => k_mem); (case hb => k_mem); (case e1 => first | assumption | exact (Grey.h (by assumption) (by assumption) (by assumption)).1 | exact (Grey2.h (by assumption) (by assumption) (by assumption)).1 | rfl); (case e2 => first | assumption | exact (Grey.h (by assumption) (by assumption) (by assumption)).2.1 | exact (Grey2.h (by assumption) (by assumption) (by assumption)).2.1 | rfl); (case e3 => first | assumption | exact (Grey.h (by assumption) (by assumption) (by assumption)).2.2 | exact (Grey2.h (by assumption) (by assumption) (by assumption)).2.2 | rfl); (case hu => units_room)) | (with_reducible refine' ne_l3 ?N ?ha ?hb ?e1 ?e2 ?e3 ?hu ?_; (case N => k_asm); (case ha => k_mem); (case hb => k_mem); (case e1 => first | assumption | exact (Grey.h (by assumption) (by assumption) (by assumption)).1 | exact (Grey2.h (by assumption) (by assumption) (by assumption)).1 | rfl); (case e2 => first | assumption | exact (Grey.h (by assumption) (by assumption) (by assumption)).2.1 | exact (Grey2.h (by assumption) (by assumption) (by assumption)).2.1 | rfl); (case e3 => first | assumption | exact (Grey.h (by assumption) (by assumption) (by assumption)).2.2 | exact (Grey2.h (by assumption) (by assumption) (by assumption)).2.2 | rfl); (case hu => units_room)) | (with_reducible refine' ne_l0 ?N ?ha ?hb ?hu ?_; (case N => k_asm); (case ha => k_mem); (case hb => k_mem); (case hu => units_room))))
  k_with "compareOp Eq ref ref" => (k_here; k_dflt ((with_reducible refine' eq_l0 ?N ?ha ?hb ?hu ?_; (case N => k_asm); (case ha => k_mem); (case hb => k_mem); (case hu => units_room))))
  k_with "eval Call" => ((with_reducible show wpAny _ _ (eval (Expr.Call (Expr.Name _ _) _ [] _) (envOf _ _ _ _ _)) _ _ _); k_dflt (refine Call_ ?_))
  k_with "call ref" => (k_here; (with_reducible show wpAny _ _ (call (Value.ref 147) _) _ _ _); k_dflt (refine' Con.use (c_mid _ _ _ _ ?hp) ?B ?F ?X ?N ?T ?hk ?hd ?hu ?_; (case F => k_asm); (case N => k_asm); (case hp => first | assumption | omega); (case T => k_asm); (case X => k_asm); (case B => k_asm); (case hk => first | exact rfl | assumption); (case hd => ktr_room); (case hu => ktr_units); k_whole); intro M' t' h' tk' hM' hM1' hM2' F' N'; (try k_sweep))
  k_with "call ref" => (k_here; (with_reducible show wpAny _ _ (call (Value.ref 140) _) _ _ _); k_dflt (refine' Con.use (c_most _ _ _ _ ?hp) ?B ?F ?X ?N ?T ?hk ?hd ?hu ?_; (case F => k_asm); (case N => k_asm); (case hp => first | assumption | omega); (case T => k_asm); (case X => k_asm); (case B => k_asm); (case hk => first | exact rfl | assumption); (case hd => ktr_room); (case hu => ktr_units); k_whole); intro M' t' h' tk' hM' hM1' hM2' F' N'; (try k_sweep))
  k_with "call ref" => (k_here; (with_reducible show wpAny _ _ (call (Value.ref 154) _) _ _ _); k_dflt (refine' Con.use (c_clamp _ _ _ _ _ _) ?B ?F ?X ?N ?T ?hk ?hd ?hu ?_; (case F => k_asm); (case N => k_asm); (case T => k_asm); (case X => k_asm); (case B => k_asm); (case hk => first | exact rfl | assumption); (case hd => ktr_room); (case hu => ktr_units); k_whole); intro x' t' h' tk' hX' F' N'; (try k_sweep))
  k_with "binaryOp Pow int int" => (k_here; k_dflt (first | (refine' nt_pow ?hp ?_; (case hp => first | assumption | omega)) | (refine' nt_pow1 ?hp ?_; (case hp => first | assumption | omega))))
  k_with "call ref" => (k_here; (with_reducible show wpAny _ _ (call (Value.ref 176) _) _ _ _); k_dflt (refine' Con.use (c_ycc _ _ _ _ _ _ _ _ _ _ ?hp ?hr ?hg ?hb) ?B ?F ?X ?N ?T ?hk ?hd ?hu ?_; (case F => k_asm); (case N => k_asm); (case hp => assumption); (case hr => omega); (case hg => omega); (case hb => omega); (case T => k_asm); (case X => k_asm); (case B => k_asm); (case hk => first | exact rfl | assumption); (case hd => ktr_room); (case hu => ktr_units); k_whole); intro D' y' cb' cr' ty' tb' tr' c' h' tk' hy' hcb' hcr' F' N' l1'; (try k_lt l1'); (try (have hYc : YccIs _ _ _ _ _ _ _ := ⟨by assumption, by assumption, by assumption, by assumption, hy', hcb', hcr'⟩; have hYk := hYc.ok; have hGy := Grey.of hYk; obtain ⟨yk1, yk2, yk3, yk4, yk5, yk6, yk7, yk8, yk9, yk10, yk11, yk12, -⟩ := hYk)); (try k_sweep))
  k_with "call ref" => (k_here; (with_reducible show wpAny _ _ (call (Value.ref 183) _) _ _ _); k_dflt (refine' Con.use (c_rgb _ _ _ _ _ _ _ _ _ _ ?hp ?hr ?hg ?hb) ?B ?F ?X ?N ?T ?hk ?hd ?hu ?_; (case F => k_asm); (case N => k_asm); (case hp => assumption); (case hr => omega); (case hg => omega); (case hb => omega); (case T => k_asm); (case X => k_asm); (case B => k_asm); (case hk => first | exact rfl | assumption); (case hd => ktr_room); (case hu => ktr_units); k_whole); intro D' y' cb' cr' ty' tb' tr' c' h' tk' hy' hcb' hcr' F' N' l1'; (try k_lt l1'); (try (have hBk := YccIs.back (by assumption) hy' hcb' hcr'; have hGb := Grey2.of hBk; obtain ⟨bk1, bk2, bk3, bk4, bk5, bk6, -⟩ := hBk)); (try k_sweep))
  k_with "call ref" => (k_here; (with_reducible show wpAny _ _ (call (Value.ref 190) _) _ _ _); k_dflt (refine' Con.use (c_ycck _ _ _ _ _ _ _ _ _ _ _ _ ?hp ?hr ?hg ?hb) ?B ?F ?X ?N ?T ?hk ?hd ?hu ?_; (case F => k_asm); (case N => k_asm); (case hp => assumption); (case hr => first | assumption | omega); (case hg => first | assumption | omega); (case hb => first | assumption | omega); (case T => k_asm); (case X => k_asm); (case B => k_asm); (case hk => first | exact rfl | assumption); (case hd => ktr_room); (case hu => ktr_units); k_whole); intro D' y' cb' cr' ty' tb' tr' tk9' c' h' tk' hy' hcb' hcr' F' N' l1'; (try k_lt l1'); (try (have hYc : YccIs _ _ _ _ _ _ _ := ⟨by assumption, by omega, by omega, by omega, hy', hcb', hcr'⟩; have hYk := hYc.ok; obtain ⟨yk1, yk2, yk3, yk4, yk5, yk6, yk7, yk8, yk9, yk10, yk11, yk12, -⟩ := hYk)); (try k_sweep))
  k_with "call ref" => (k_here; (with_reducible show wpAny _ _ (call (Value.ref 197) _) _ _ _); k_dflt (refine' Con.use (c_cmyk _ _ _ _ _ _ _ _ _ _ _ _ ?hp ?hr ?hg ?hb) ?B ?F ?X ?N ?T ?hk ?hd ?hu ?_; (case F => k_asm); (case N => k_asm); (case hp => assumption); (case hr => omega); (case hg => omega); (case hb => omega); (case T => k_asm); (case X => k_asm); (case B => k_asm); (case hk => first | exact rfl | assumption); (case hd => ktr_room); (case hu => ktr_units); k_whole); intro D' y' cb' cr' ty' tb' tr' tk9' c' h' tk' hy' hcb' hcr' F' N' l1'; (try k_lt l1'); (try (have hBk := YccIs.back (by assumption) hy' hcb' hcr'; obtain ⟨bk1, bk2, bk3, bk4, bk5, bk6, -⟩ := hBk)); (try k_sweep))
  k_with "call ref" => (k_here; (with_reducible show wpAny _ _ (call (Value.ref 204) _) _ _ _); k_dflt (refine' Con.use (c_light _ _ _ _ _ _ _ _) ?B ?F ?X ?N ?T ?hk ?hd ?hu ?_; (case F => k_asm); (case N => k_asm); (case T => k_asm); (case X => k_asm); (case B => k_asm); (case hk => first | exact rfl | assumption); (case hd => ktr_room); (case hu => ktr_units); k_whole); intro y' t' h' tk' hy' F' N'; (try k_sweep))
  unfold Con
  k_fill
  intro mean mg mb dp un gd cn cs aa ccd cl outer A₀ base h₀ L m s Q E B F X N T hk hd hu hret
  have hMid := mid_le hp
  refine wpAny_call ?_
  k_dflt k_enter
  k_steps
  all_goals (rename Fr h₀ L _ _ => hF; rename News h₀ L _ _ => hN)
  exact hret _ _ _ _ _ _ _ _ _ _ (by assumption) (by assumption) (by assumption) hF hN (by assumption)

theorem c_samp_rgb (w : World) (news : Led) (tu dx l : Addr) (r g b p : Int) (t1 t2 t3 ta tb tp k1 k2 k3 : Tok) (c : Nat) (hm1 : (tu, instObj 228 dx) ∈ news) (hm2 : (dx, turnD w (Str.ofString "ycc") (Str.ofString "rgb") p ta tb tp k1 k2 k3) ∈ news) (hm3 : (l, listOf #[.int r t1, .int g t2, .int b t3] c) ∈ news) (hp : 2 ≤ p ∧ p ≤ 8) (hr : 0 ≤ r ∧ r ≤ 255) (hg : 0 ≤ g ∧ g ≤ 255) (hb : 0 ≤ b ∧ b ≤ 255) :
   Con w 225 [.ref tu, .ref l] news 6 (fun h₀ L m Q => ∀ (D : Addr) (y cb cr : Int) (ty tb tr : Tok) (c : Nat) (h' : Heap) (tk' : Nat), y = fR (mid p) r g b → cb = fG (mid p) r g b → cr = fB (mid p) r g b → Fr h₀ L h' m → News h₀ L h' ((D, tupOf #[.int y ty, .int cb tb, .int cr tr] c) :: news) → AllLt D news → Q (.ref D) h' tk') := by
  unfold Con
  k_fill
  intro mean mg mb dp un gd cn cs aa ccd cl outer A₀ base h₀ L m s Q E B F X N T hk hd hu hret
  have hMid := mid_le hp
  refine wpAny_call ?_
  k_dflt k_enter
  k_steps
  all_goals (rename Fr h₀ L _ _ => hF; rename News h₀ L _ _ => hN)
  exact hret _ _ _ _ _ _ _ _ _ _ (by assumption) (by assumption) (by assumption) hF hN (by assumption)

theorem c_samp_ycck (w : World) (news : Led) (tu dx l : Addr) (a : Str) (r g b k p : Int) (t1 t2 t3 t4 ta tb tp k1 k2 k3 : Tok) (c : Nat) (hm1 : (tu, instObj 228 dx) ∈ news) (hm2 : (dx, turnD w a (Str.ofString "ycck") p ta tb tp k1 k2 k3) ∈ news) (hm3 : (l, listOf #[.int r t1, .int g t2, .int b t3, .int k t4] c) ∈ news) (hp : 2 ≤ p ∧ p ≤ 8) (hr : 0 ≤ r ∧ r ≤ 2 * mid p - 1) (hg : 0 ≤ g ∧ g ≤ 2 * mid p - 1) (hb : 0 ≤ b ∧ b ≤ 2 * mid p - 1) :
   Con w 225 [.ref tu, .ref l] news 6 (fun h₀ L m Q => ∀ (D : Addr) (y cb cr : Int) (ty tb tr tk : Tok) (c : Nat) (h' : Heap) (tk' : Nat), y = fY (2 * mid p - 1 - r) (2 * mid p - 1 - g) (2 * mid p - 1 - b) → cb = fCb (mid p) (2 * mid p - 1 - r) (2 * mid p - 1 - g) (2 * mid p - 1 - b) → cr = fCr (mid p) (2 * mid p - 1 - r) (2 * mid p - 1 - g) (2 * mid p - 1 - b) → Fr h₀ L h' m → News h₀ L h' ((D, tupOf #[.int y ty, .int cb tb, .int cr tr, .int k tk] c) :: news) → AllLt D news → Q (.ref D) h' tk') := by
  unfold Con
  k_fill
  intro mean mg mb dp un gd cn cs aa ccd cl outer A₀ base h₀ L m s Q E B F X N T hk hd hu hret
  have hMid := mid_le hp
  refine wpAny_call ?_
  k_dflt k_enter
  k_steps
  all_goals (rename Fr h₀ L _ _ => hF; rename News h₀ L _ _ => hN)
  exact hret _ _ _ _ _ _ _ _ _ _ _ (by assumption) (by assumption) (by assumption) hF hN (by assumption)

theorem c_samp_cmyk (w : World) (news : Led) (tu dx l : Addr) (a : Str) (r g b k p : Int) (t1 t2 t3 t4 ta tb tp k1 k2 k3 : Tok) (c : Nat) (hm1 : (tu, instObj 228 dx) ∈ news) (hm2 : (dx, turnD w a (Str.ofString "cmyk") p ta tb tp k1 k2 k3) ∈ news) (hm3 : (l, listOf #[.int r t1, .int g t2, .int b t3, .int k t4] c) ∈ news) (hp : 2 ≤ p ∧ p ≤ 8) (hr : 0 ≤ r ∧ r ≤ 255) (hg : 0 ≤ g ∧ g ≤ 255) (hb : 0 ≤ b ∧ b ≤ 255) :
   Con w 225 [.ref tu, .ref l] news 6 (fun h₀ L m Q => ∀ (D : Addr) (y cb cr : Int) (ty tb tr tk : Tok) (c : Nat) (h' : Heap) (tk' : Nat), 2 * mid p - 1 - y = fR (mid p) r g b → 2 * mid p - 1 - cb = fG (mid p) r g b → 2 * mid p - 1 - cr = fB (mid p) r g b → Fr h₀ L h' m → News h₀ L h' ((D, tupOf #[.int y ty, .int cb tb, .int cr tr, .int k tk] c) :: news) → AllLt D news → Q (.ref D) h' tk') := by
  unfold Con
  k_fill
  intro mean mg mb dp un gd cn cs aa ccd cl outer A₀ base h₀ L m s Q E B F X N T hk hd hu hret
  have hMid := mid_le hp
  refine wpAny_call ?_
  k_dflt k_enter
  k_steps
  all_goals (rename Fr h₀ L _ _ => hF; rename News h₀ L _ _ => hN)
  exact hret _ _ _ _ _ _ _ _ _ _ _ (by assumption) (by assumption) (by assumption) hF hN (by assumption)

theorem c_samp_grey (w : World) (news : Led) (tu dx l : Addr) (a : Str) (r g b p : Int) (t1 t2 t3 ta tb tp k1 k2 k3 : Tok) (c : Nat) (hm1 : (tu, instObj 228 dx) ∈ news) (hm2 : (dx, turnD w a (Str.ofString "grey") p ta tb tp k1 k2 k3) ∈ news) (hm3 : (l, listOf #[.int r t1, .int g t2, .int b t3] c) ∈ news) (hp : 2 ≤ p ∧ p ≤ 8)  :
   Con w 225 [.ref tu, .ref l] news 6 (fun h₀ L m Q => ∀ (D : Addr) (y : Int) (ty : Tok) (c : Nat) (h' : Heap) (tk' : Nat), y = fY r g b → Fr h₀ L h' m → News h₀ L h' ((D, tupOf #[.int y ty] c) :: news) → AllLt D news → Q (.ref D) h' tk') := by
  unfold Con
  k_fill
  intro mean mg mb dp un gd cn cs aa ccd cl outer A₀ base h₀ L m s Q E B F X N T hk hd hu hret
  have hMid := mid_le hp
  refine wpAny_call ?_
  k_dflt k_enter
  k_steps
  all_goals (rename Fr h₀ L _ _ => hF; rename News h₀ L _ _ => hN)
  (rename ∀ (p : Addr × Obj), p ∈ _ → p.1 < _ => l1)
  exact hret _ _ _ _ _ _ (by assumption) hF hN (allLt_of l1)
end
-- NtPlane
section
open PySem PySem.W PySem.Spec PySem.Calls PyProof.Rows PySem.SeqAt
def Sub (a b : Led) : Prop := ∀ q ∈ a, q ∈ b
theorem Sub.refl {a : Led} : Sub a a := fun _ h => h
theorem Sub.cons {a b : Led} {x : Addr × Obj} (h : Sub a b) : Sub a (x :: b) := fun q hq => .tail _ (h q hq)
theorem Sub.trans {a b c : Led} (h : Sub a b) (g : Sub b c) : Sub a c := fun q hq => g q (h q hq)
theorem Sub.at {a b : Led} {x : Addr × Obj} (h : Sub a b) (m : x ∈ a) : x ∈ b := h x m
/-- a plane of two by two, laid out in the ledger -/
def PlaneIn (w : World) (news : Led) (P : Addr) (a b c d : Int) : Prop := ∃ (dx rl r0 r1 : Addr) (tx ty k1 k2 k3 ta tb tc td : Tok) (c1 c2 c3 : Nat),
  (P, instObj 84 dx) ∈ news ∧ (dx, planeD w 2 2 rl tx ty k1 k2 k3) ∈ news ∧ (rl, listOf #[.ref r0, .ref r1] c1) ∈ news ∧ (r0, listOf #[.int a ta, .int b tb] c2) ∈ news ∧ (r1, listOf #[.int c tc, .int d td] c3) ∈ news
theorem PlaneIn.sub {w : World} {a b : Led} {P : Addr} {x y z u : Int} (s : Sub a b) (h : PlaneIn w a P x y z u) : PlaneIn w b P x y z u := by
  obtain ⟨dx, rl, r0, r1, tx, ty, k1, k2, k3, ta, tb, tc, td, c1, c2, c3, m1, m2, m3, m4, m5⟩ := h
  exact ⟨dx, rl, r0, r1, tx, ty, k1, k2, k3, ta, tb, tc, td, c1, c2, c3, s _ m1, s _ m2, s _ m3, s _ m4, s _ m5⟩
/-- what a turning is asked, three samples to three -/
def Samp33 (w : World) (news : Led) (tu : Addr) (Ok : Int → Int → Int → Prop) (R : Int → Int → Int → Int → Int → Int → Prop) : Prop :=
  ∀ (news' : Led) (l : Addr) (r g b : Int) (t1 t2 t3 : Tok) (c : Nat), Sub news news' → (l, listOf #[.int r t1, .int g t2, .int b t3] c) ∈ news' → Ok r g b →
    Con w 225 [.ref tu, .ref l] news' 6 (fun h₀ L m Q => ∀ (D : Addr) (y cb cr : Int) (ty tb tr : Tok) (c : Nat) (h' : Heap) (tk' : Nat), R r g b y cb cr → Fr h₀ L h' m → News h₀ L h' ((D, tupOf #[.int y ty, .int cb tb, .int cr tr] c) :: news') → AllLt D news' → Q (.ref D) h' tk')
theorem Samp33.use {w : World} {news : Led} {tu : Addr} {Ok : Int → Int → Int → Prop} {R : Int → Int → Int → Int → Int → Int → Prop} (S : Samp33 w news tu Ok R) {news' : Led} {l : Addr} {r g b : Int} {t1 t2 t3 : Tok} {c : Nat} (s : Sub news news') (h : (l, listOf #[.int r t1, .int g t2, .int b t3] c) ∈ news') (ok : Ok r g b) :
    Con w 225 [.ref tu, .ref l] news' 6 (fun h₀ L m Q => ∀ (D : Addr) (y cb cr : Int) (ty tb tr : Tok) (c : Nat) (h' : Heap) (tk' : Nat), R r g b y cb cr → Fr h₀ L h' m → News h₀ L h' ((D, tupOf #[.int y ty, .int cb tb, .int cr tr] c) :: news') → AllLt D news' → Q (.ref D) h' tk') :=
  S _ _ _ _ _ _ _ _ _ s h ok
end
-- NtLoop
section
open PySem PySem.W PySem.Spec PySem.Calls PyProof.Rows PySem.SeqAt PyProof.Rows.LCg
theorem lookup_relabel_cell {env : Env} : ∀ {names : List (Str × NameKind)} {x : Str}, names.lookup x = some .cell →
    (names.map fun (n, k) => if (k == NameKind.free && env.scope.kind == .function && env.kindOf n == some .cell) then (n, NameKind.cell) else (n, k)).lookup x = some .cell
  | [], _, h => by simp at h
  | (n, k) :: r, x, h => by
    have ih := @lookup_relabel_cell env r x
    show List.lookup x ((if (k == NameKind.free && env.scope.kind == .function && env.kindOf n == some .cell) = true then (n, NameKind.cell) else (n, k)) :: _) = _
    cases hx : x == n with
    | true =>
      simp only [List.lookup_cons, hx] at h
      cases h
      simp [List.lookup_cons, hx]
    | false =>
      simp only [List.lookup_cons, hx] at h
      by_cases hc : (k == NameKind.free && env.scope.kind == .function && env.kindOf n == some .cell) = true
      · rw [if_pos hc]; simp only [List.lookup_cons, hx]; exact ih h
      · rw [if_neg hc]; simp only [List.lookup_cons, hx]; exact ih h
def Off4 (I C X D : Addr) : Led → Prop
  | [] => True
  | p :: r => ((@Ne Nat p.1 I) ∧ (@Ne Nat p.1 C) ∧ (@Ne Nat p.1 X) ∧ (@Ne Nat p.1 D)) ∧ Off4 I C X D r
theorem Off4.mem {I C X D : Addr} : ∀ {l : Led}, Off4 I C X D l → ∀ p ∈ l, p.1 ≠ I ∧ p.1 ≠ C ∧ p.1 ≠ X ∧ p.1 ≠ D
  | [], _, _, h => nomatch h
  | _ :: _, x, p, h => by
    rcases List.mem_cons.mp h with rfl | h
    · exact x.1
    · exact Off4.mem x.2 p h
theorem Off4.of {I C X D : Addr} : ∀ {l : Led}, (∀ p ∈ l, p.1 ≠ I ∧ p.1 ≠ C ∧ p.1 ≠ X ∧ p.1 ≠ D) → Off4 I C X D l
  | [], _ => trivial
  | _ :: _, h => ⟨h _ List.mem_cons_self, Off4.of fun p hp => h p (List.mem_cons_of_mem _ hp)⟩
theorem Off4.one {I C X D : Addr} {l : Led} (x : Off4 I C X D l) : Off1 D l := off1_of fun p hp => (x.mem p hp).2.2.2
def EndX (h₀ : Heap) (L : Addr) (m : Str → Option Value) (s₁ : Shared) (I : Addr) (oI : Obj) (C : Addr) (oC : Obj) (X : Addr) (oX : Obj) (D : Addr) (oD : Obj) (rest : Value → Led → Prop) (y : Value) (s₂ : Shared) : Prop :=
  ∃ h' tk news', s₂ = { s₁ with heap := h', toks := tk } ∧ Fr h₀ L h' m ∧ News h₀ L h' ((I, oI) :: (C, oC) :: (X, oX) :: (D, oD) :: news') ∧ Off4 I C X D news' ∧ rest y news'
theorem EndX.intro {h₀ : Heap} {L I C X D : Addr} {m : Str → Option Value} {s₁ : Shared} {oI oC oX oD : Obj} {rest : Value → Led → Prop} {y : Value} {h' : Heap} {tk : Nat} {all r1 r2 r3 news' : Led}
    (F : Fr h₀ L h' m) (N : News h₀ L h' all) (P1 : Pick (I, oI) all r1) (P2 : Pick (C, oC) r1 r2) (P3 : Pick (X, oX) r2 r3) (P4 : Pick (D, oD) r3 news') (off : Off4 I C X D news') (r : rest y news') :
    EndX h₀ L m s₁ I oI C oC X oX D oD rest y { s₁ with heap := h', toks := tk } := ⟨h', tk, news', rfl, F, fun p hp => by
    rcases List.mem_cons.mp hp with rfl | hp
    · exact N _ (P1.sub _ (.head _))
    · rcases List.mem_cons.mp hp with rfl | hp
      · exact N _ (P1.sub _ (.tail _ (P2.sub _ (.head _))))
      · rcases List.mem_cons.mp hp with rfl | hp
        · exact N _ (P1.sub _ (.tail _ (P2.sub _ (.tail _ (P3.sub _ (.head _))))))
        · exact N _ (P1.sub _ (.tail _ (P2.sub _ (.tail _ (P3.sub _ (.tail _ (P4.sub _ hp))))))), off, r⟩
def RestX (prog : Program) (w : World) (A : Around) (h₀ : Heap) (L : Addr) (m : Str → Option Value) (env : Env) (elt : PySem.Expr) (x : Str) (scope : Scope) (cl : List (Str × Addr)) (s : Shared) (Fin : List Value → Led → Prop) : Nat → Int → List Value → Led → Prop
  | 0, _, ys, news => Fin ys news
  | k + 1, j, ys, news => ∀ t I oI C oC X oX D h tk (E' : Value → Shared → Prop), oX.data = .cell (some (.int j t)) → Fr h₀ L h m → News h₀ L h ((I, oI) :: (C, oC) :: (X, oX) :: (D, lst ys) :: news) → Off4 I C X D news →
      ((@Ne Nat I C) ∧ (@Ne Nat I X) ∧ (@Ne Nat I D) ∧ (@Ne Nat C X) ∧ (@Ne Nat C D) ∧ (@Ne Nat X D)) →
      wpAny (model prog w) A (eval elt (compEnvC scope ((x, X) :: cl) C env)) (EndX h₀ L m { s with heap := h, toks := tk } I oI C oC X oX D (lst ys) (fun y news' => RestX prog w A h₀ L m env elt x scope cl s Fin k (j + 1) (ys ++ [y]) news')) E' { s with heap := h, toks := tk }
section
variable {prog : Program} {w : World} {A : Around} {E : Value → Shared → Prop} {s : Shared} {h₀ : Heap} {L : Addr} {m : Str → Option Value} {env : Env}
theorem RestX.zero {elt : PySem.Expr} {x : Str} {scope : Scope} {cl : List (Str × Addr)} {Fin : List Value → Led → Prop} {j : Int} {ys : List Value} {news : Led} (h : Fin ys news) : RestX prog w A h₀ L m env elt x scope cl s Fin 0 j ys news := h
theorem RestX.succ {elt : PySem.Expr} {x : Str} {scope : Scope} {cl : List (Str × Addr)} {Fin : List Value → Led → Prop} {k : Nat} {j : Int} {ys : List Value} {news : Led}
    (h : ∀ t I oI C oC X oX D h tk (E' : Value → Shared → Prop), oX.data = .cell (some (.int j t)) → Fr h₀ L h m → News h₀ L h ((I, oI) :: (C, oC) :: (X, oX) :: (D, lst ys) :: news) → Off4 I C X D news →
      ((@Ne Nat I C) ∧ (@Ne Nat I X) ∧ (@Ne Nat I D) ∧ (@Ne Nat C X) ∧ (@Ne Nat C D) ∧ (@Ne Nat X D)) →
      wpAny (model prog w) A (eval elt (compEnvC scope ((x, X) :: cl) C env)) (EndX h₀ L m { s with heap := h, toks := tk } I oI C oC X oX D (lst ys) (fun y news' => RestX prog w A h₀ L m env elt x scope cl s Fin k (j + 1) (ys ++ [y]) news')) E' { s with heap := h, toks := tk }) :
    RestX prog w A h₀ L m env elt x scope cl s Fin (k + 1) j ys news := h
abbrev cellNone : Obj := { cls := .type "cell", data := .cell none }
theorem newEnvX {scope : Scope} {globals : Addr} {cl : List (Str × Addr)} {qual : Str} {x : Str} {Q : Env → Shared → Prop} (hcf : ∀ a : Nat, cellsFrom a scope.names cl = (x, a) :: cl) (hpc : ∀ h : Heap, pushCells h scope.names = h.push cellNone)
    (h : Q { scope, locals := s.heap.objs.size, globals, cells := (x, s.heap.objs.size + 1) :: cl, qual, func := none, code := env.code, frame := env.frame, builtins := env.builtins } { s with heap := (s.heap.push { cls := .type "dict", data := .dict #[] }).push cellNone }) :
    wpAny (model prog w) A (newFunctionEnv scope globals cl [] qual none .none (some env)) Q E s := by
  simp only [newFunctionEnv, Option.isSome_some, if_true]
  refine wpAny_bind (wpAny_alloc ?_)
  refine wpAny_bind (wpAny_layCells _ (fun name kind cells => by cases kind <;> rfl) _ _ _ _ ?_)
  rw [hcf, hpc]
  simp only [List.forIn_nil]
  refine wpAny_bind (wpAny_pure (wpAny_pure ?_))
  simp only [Heap.size_push]
  exact h
theorem block_X {elt iter : PySem.Expr} {x : Str} {px : Pos} {scope : Scope} {cl : List (Str × Addr)} {pos : Pos} {s₂ : Shared} {I : Addr} {n : Nat} {a : Int} {news : Led} {Fin : List Value → Led → Prop} {RR : Value → Addr → Result → Shared → Prop}
    (hh : A.handled = none) (hsz : n ≤ sizeLine) (hcf : ∀ a : Nat, cellsFrom a scope.names cl = (x, a) :: cl) (hpc : ∀ h : Heap, pushCells h scope.names = h.push cellNone) (hkind : scope.kind = .function) (hx : scope.names.lookup x = some .cell)
    (hst : IsRangeIter s₂.heap I (a + ((0 : Nat) : Int) * 1) ((n : Int) - ((0 : Nat) : Int)) 1) (F : Fr h₀ L s₂.heap m) (N : News h₀ L s₂.heap news) (hIL : L ≠ I) (hI₀ : h₀.get? I = none) (off : ∀ p ∈ news, p.1 ≠ I)
    (R : RestX prog w A h₀ L m env elt x scope cl s₂ Fin n a [] news)
    (hRR : ∀ D C h tk m' ys news', Fr h₀ L h m → News h₀ L h ((D, lst ys) :: news') → Off1 D news' → h.Ns C m' → h₀.get? C = none → C ≠ L → C ≠ D → (∀ p ∈ news', p.1 ≠ C) → Fin ys news' → RR (.ref D) C (.ok .next) { s₂ with heap := h, toks := tk }) :
    wpAny (model prog w) A (newList []) (fun acc s₃ => wpAny (model prog w) A (newFunctionEnv scope env.globals cl [] env.qual none .none (some env)) (fun cenv s₄ =>
      codeAny (model prog w) A (.compStart (.ListComp elt [⟨.Name x px, iter, [], 0⟩] scope pos) 0 (.ref I) acc { cenv with scope := relabel scope env }) (RR acc cenv.locals) s₄) E s₃) E s₂ := by
  have W := LCg.range_walks (prog := prog) (w := w) (A := A) (I := I) hh a n
  refine wpAny_newObj_type ?_
  refine newEnvX hcf hpc ?_
  dsimp only
  generalize hz : s₂.heap.objs.size = z
  have hzD : (s₂.heap.push { cls := .type "list", dict := none, data := .seq ([] : List Value).toArray }).objs.size = z + 1 := by rw [Heap.size_push, hz]
  rw [hzD]
  generalize hH : (((s₂.heap.push { cls := .type "list", dict := none, data := .seq ([] : List Value).toArray }).push { cls := .type "dict", data := .dict #[] }).push cellNone) = H
  have old : ∀ b o, s₂.heap.get? b = some o → H.get? b = some o := fun b o e => hH ▸ Heap.get?_push_of_some _ (Heap.get?_push_of_some _ (Heap.get?_push_of_some _ e))
  have hacc : H.get? z = some (lst []) := by rw [← hH, ← hz]; exact Heap.get?_push_of_some _ (Heap.get?_push_of_some _ (Heap.get?_push_size _ rfl))
  have hnC : H.Ns (z + 1) (fun _ => none) := by
    rw [← hzD, ← hH]
    exact (Heap.Ns.new _ (.type "dict")).keeps fun b o e => Heap.get?_push_of_some _ e
  have hcX : H.IsCell (z + 1 + 1) none := by
    have e : ((s₂.heap.push { cls := .type "list", dict := none, data := .seq ([] : List Value).toArray }).push { cls := .type "dict", data := .dict #[] }).objs.size = z + 1 + 1 := by rw [Heap.size_push, hzD]
    rw [← e, ← hH]
    exact ⟨_, Heap.get?_push_size _ rfl, rfl⟩
  have fresh₀ : ∀ a, z ≤ a → h₀.get? a = none := fun a ha => ktu_new F (by rw [hz]; exact ha)
  have hD₀ : h₀.get? z = none := fresh₀ _ (Nat.le_refl _)
  have hC₀ : h₀.get? (z + 1) = none := fresh₀ _ (Nat.le_succ _)
  have hX₀ : h₀.get? (z + 1 + 1) = none := fresh₀ _ (Nat.le_succ_of_le (Nat.le_succ _))
  have hLz : L < z := hz ▸ F.ns.lt
  have hIz : I < z := by rw [← hz]; exact Heap.lt_size hst
  have q1 : z + 1 ≠ z + 1 + 1 := Nat.ne_of_lt (Nat.lt_succ_self _)
  have q2 : z ≠ z + 1 := Nat.ne_of_lt (Nat.lt_succ_self _)
  have q3 : z ≠ z + 1 + 1 := Nat.ne_of_lt (Nat.lt_succ_of_lt (Nat.lt_succ_self _))
  have nez : ∀ b k : Nat, b < z → b ≠ z + k := fun b k h => by omega
  have hnz : ∀ p ∈ news, p.1 < z := fun p hp => hz ▸ Heap.lt_size (N p hp).1
  have loop : ∀ s₃ : Shared, s₃ = { s₂ with heap := H } →
      codeAny (model prog w) A (.compLoop (.ListComp elt [⟨.Name x px, iter, [], 0⟩] scope pos) 0 (.ref I) (.ref z) (compEnvC scope ((x, z + 1 + 1) :: cl) (z + 1) env)) (RR (.ref z) (z + 1)) s₃ := by
    rintro s₃ rfl
    refine codeAny_compLoop_tests
      (fun k s' => ∃ h' tk i ys m' v₀ news', s' = { s₂ with heap := h', toks := tk } ∧ i ≤ n ∧ k = n + 1 - i ∧ ys.length = i ∧ IsRangeIter h' I (a + (i : Int) * 1) ((n : Int) - (i : Int)) 1 ∧ Fr h₀ L h' m ∧ h'.Ns (z + 1) m' ∧ h'.IsCell (z + 1 + 1) v₀ ∧ News h₀ L h' ((z, lst ys) :: news') ∧
        Off4 I (z + 1) (z + 1 + 1) z news' ∧ RestX prog w A h₀ L m env elt x scope cl s₂ Fin (n - i) (a + (i : Int)) ys news') ?_ (n + 1)
      ⟨H, s₂.toks, 0, [], _, _, news, rfl, Nat.zero_le _, rfl, rfl, old _ _ hst, F.keeps old, hnC, hcX, fun p hp => ?_, Off4.of fun p hp => ⟨off p hp, nez _ 1 (hnz p hp), nez _ 2 (hnz p hp), nez _ 0 (hnz p hp)⟩, by rw [Int.natCast_zero, Int.add_zero]; exact R⟩
    · rintro k s' ⟨h', tk, i, ys, m', v₀, news', rfl, hi, rfl, hyl, hst', F', hn', hc', N', off', R'⟩
      have off4 := off'.mem
      by_cases hlt : i < n
      · obtain ⟨j, hj⟩ : ∃ j, n - i = j + 1 := ⟨n - i - 1, by omega⟩
        rw [hj] at R'
        refine W.item i _ _ _ hlt hst' fun v h₂ tk₂ hPv hst₂ hk₂ => ?_
        obtain ⟨t, rfl⟩ := hPv
        have up₂ : ∀ c o, c ≠ I → h'.get? c = some o → h₂.get? c = some o := fun c o hc e => hk₂ c o (by simpa using hc) e
        have hc₂ : h₂.IsCell (z + 1 + 1) v₀ := by obtain ⟨o, e, hd⟩ := hc'; exact ⟨o, up₂ _ o (Ne.symm (nez _ 2 hIz)) e, hd⟩
        refine wpAny_assign_Name (wpAny_storeName_cell (env := compEnvC scope ((x, z + 1 + 1) :: cl) (z + 1) env) (by simp [compEnvC, relabel, hkind]) (lookup_relabel_cell hx) (by simp [compEnvC]) hc₂ fun h₃ hX₃ hs₃ => ?_)
        refine wpAny_tests_nil ?_
        simp only [if_true]
        have up : ∀ c o, c ≠ I → c ≠ z + 1 + 1 → h'.get? c = some o → h₃.get? c = some o := fun c o h1 h2 e => hs₃.extBut c o h2 (up₂ c o h1 e)
        have hst₃ : IsRangeIter h₃ I (a + ((i + 1 : Nat) : Int) * 1) ((n : Int) - ((i + 1 : Nat) : Int)) 1 := hs₃.extBut _ _ (nez _ 2 hIz) hst₂
        obtain ⟨oI, heI, hoI⟩ : ∃ oI : Obj, h₃.get? I = some oI ∧ ∀ h : Heap, h.get? I = some oI → IsRangeIter h I (a + ((i + 1 : Nat) : Int) * 1) ((n : Int) - ((i + 1 : Nat) : Int)) 1 := ⟨_, hst₃, fun _ e => e⟩
        obtain ⟨oX, heX, hoX⟩ := hX₃
        obtain ⟨oC, heC, hoC⟩ := ns_obj (hn'.at' fun o e => up _ o (Ne.symm (nez _ 1 hIz)) q1 e)
        have F₃ : Fr h₀ L h₃ m := ⟨F'.ns.at' fun o e => up _ o hIL (nez _ 2 hLz) e, fun c o e => up c o (fun q => by rw [q, hI₀] at e; cases e) (fun q => by rw [q, hX₀] at e; cases e) (F'.keep c o e), F'.above⟩
        have N₃ : News h₀ L h₃ ((I, oI) :: (z + 1, oC) :: (z + 1 + 1, oX) :: (z, lst ys) :: news') := fun p hp => by
          rcases List.mem_cons.mp hp with rfl | hp
          · exact ⟨heI, Ne.symm hIL, hI₀⟩
          rcases List.mem_cons.mp hp with rfl | hp
          · exact ⟨heC, Ne.symm (nez _ 1 hLz), hC₀⟩
          rcases List.mem_cons.mp hp with rfl | hp
          · exact ⟨heX, Ne.symm (nez _ 2 hLz), hX₀⟩
          have q := N' p hp
          rcases List.mem_cons.mp hp with rfl | hp
          · exact ⟨up _ _ (Ne.symm (nez _ 0 hIz)) q3 q.1, q.2⟩
          · exact ⟨up _ _ (off4 p hp).1 (off4 p hp).2.2.1 q.1, q.2⟩
        refine wpAny_mono (R' t I oI (z + 1) oC (z + 1 + 1) oX z h₃ _ _ hoX F₃ N₃ off' ⟨nez _ 1 hIz, nez _ 2 hIz, nez _ 0 hIz, q1, Ne.symm q2, Ne.symm q3⟩) (fun y s₄ h₄ => ?_) fun _ _ e => e
        obtain ⟨h₄, tk₄, news₄, rfl, F₄, N₄, off₄, R₄⟩ := h₄
        have zI := (N₄ (I, oI) List.mem_cons_self).1
        have zC := (N₄ (z + 1, oC) (.tail _ (.head _))).1
        have zX := (N₄ (z + 1 + 1, oX) (.tail _ (.tail _ (.head _)))).1
        have zD := (N₄ (z, lst ys) (.tail _ (.tail _ (.tail _ (.head _))))).1
        have N₄' : News h₀ L h₄ news₄ := fun p hp => N₄ p (.tail _ (.tail _ (.tail _ (.tail _ hp))))
        have off5 := off₄.mem
        refine append_at (hsz := by show ys.toArray.size ≤ sizeLine; rw [List.size_toArray, hyl]; exact Nat.le_trans hi hsz) zD fun h₅ hs₅ hD₅ => ?_
        refine ⟨n + 1 - (i + 1), by omega, h₅, tk₄, i + 1, ys ++ [y], _, _, news₄, rfl, hlt, rfl, by rw [List.length_append, List.length_singleton, hyl], hoI h₅ (hs₅.extBut _ _ (nez _ 0 hIz) zI), F₄.change hs₅ (Ne.symm (nez _ 0 hLz)) hD₀,
          hoC.ns (hs₅.extBut _ _ (Ne.symm q2) zC), ⟨oX, hs₅.extBut _ _ (Ne.symm q3) zX, hoX⟩, fun p hp => ?_, off₄, ?_⟩
        · rcases List.mem_cons.mp hp with rfl | hp
          · exact ⟨hD₅.trans (congrArg some (lst_snoc ys y)), Ne.symm (nez _ 0 hLz), hD₀⟩
          · exact ⟨hs₅.extBut _ _ (off5 p hp).2.2.2 (N₄' p hp).1, (N₄' p hp).2⟩
        · rw [show n - (i + 1) = j by omega, show a + ((i + 1 : Nat) : Int) = a + (i : Int) + 1 by omega]
          exact R₄
      · obtain rfl : i = n := Nat.le_antisymm hi (Nat.not_lt.mp hlt)
        rw [Nat.sub_self] at R'
        refine W.done _ _ _ hst' fun h₂ tk₂ hk₂ => ?_
        have up₂ : ∀ c o, c ≠ I → h'.get? c = some o → h₂.get? c = some o := fun c o hc e => hk₂ c o (by simpa using hc) e
        exact hRR _ _ h₂ tk₂ _ ys news' (fr_but F' hk₂ hIL hI₀) (news_but N' hk₂ fun p hp => by
          rcases List.mem_cons.mp hp with rfl | hp
          · exact Ne.symm (nez _ 0 hIz)
          · exact (off4 p hp).1) off'.one (hn'.at' fun o e => up₂ _ o (Ne.symm (nez _ 1 hIz)) e) hC₀ (Ne.symm (nez _ 1 hLz)) (Ne.symm q2) (fun p hp => (off4 p hp).2.1) R'
    · rcases List.mem_cons.mp hp with rfl | hp
      · exact ⟨hacc, Ne.symm (nez _ 0 hLz), hD₀⟩
      · exact ⟨old _ _ (N p hp).1, (N p hp).2⟩
  exact codeAny_compStart_list (loop _ rfl) (W.self 0 _ _ _ (old _ _ hst) (loop _ rfl))

def SrcX (prog : Program) (w : World) (A : Around) (h₀ : Heap) (L : Addr) (m : Str → Option Value) (env : Env) (elt : PySem.Expr) (x : Str) (scope : Scope) (cl : List (Str × Addr)) (Fin : Shared → List Value → Led → Prop) (xv : Value) (s₁ : Shared) : Prop :=
  ∃ r a b t u v n news, xv = .ref r ∧ A.handled = none ∧ Fr h₀ L s₁.heap m ∧ News h₀ L s₁.heap news ∧ IsRange s₁.heap r a b 1 t u v ∧ Builtin.Range.small a b 1 = true ∧ Builtin.Range.rangeSize a b 1 = ((n : Nat) : Int) ∧ n ≤ sizeLine ∧
    ∀ g : Heap, RestX prog w A h₀ L m env elt x scope cl { s₁ with heap := g } (Fin { s₁ with heap := g }) n a [] news
theorem SrcX.intro {elt : PySem.Expr} {x : Str} {scope : Scope} {cl : List (Str × Addr)} {Fin : Shared → List Value → Led → Prop} {r : Addr} {a b : Int} {t u v : Tok} {n : Nat} {news : Led} {s₁ : Shared}
    (hh : A.handled = none) (F : Fr h₀ L s₁.heap m) (N : News h₀ L s₁.heap news) (hr : IsRange s₁.heap r a b 1 t u v) (hsm : Builtin.Range.small a b 1 = true) (hn : Builtin.Range.rangeSize a b 1 = ((n : Nat) : Int)) (hsz : n ≤ sizeLine)
    (h : ∀ g : Heap, RestX prog w A h₀ L m env elt x scope cl { s₁ with heap := g } (Fin { s₁ with heap := g }) n a [] news) :
    SrcX prog w A h₀ L m env elt x scope cl Fin (.ref r) s₁ := ⟨r, a, b, t, u, v, n, news, rfl, hh, F, N, hr, hsm, hn, hsz, h⟩
theorem ListComp_X {elt iter : PySem.Expr} {x : Str} {px : Pos} {scope : Scope} {cl : List (Str × Addr)} {pos : Pos} {Q : Value → Shared → Prop} (F₀ : Fr h₀ L s.heap m)
    (hclos : closureFor scope env = pure cl) (hcf : ∀ a : Nat, cellsFrom a scope.names cl = (x, a) :: cl) (hpc : ∀ h : Heap, pushCells h scope.names = h.push cellNone) (hkind : scope.kind = .function)
    (hnames : ∀ y ∈ scope.names, y.2 = .local → scope.names.lookup y.1 = some .local) (hx : scope.names.lookup x = some .cell)
    (h : wpAny (model prog w) A (eval iter env) (SrcX prog w A h₀ L m env elt x scope cl (fun s₂ => FinE h₀ L m s₂ Q)) E s)
    (hs : ∀ x, foldedSetIterable iter env x = pure x := by intro _; rfl) :
    wpAny (model prog w) A (eval (.ListComp elt [⟨.Name x px, iter, [], 0⟩] scope pos) env) Q E s := by
  rw [eval_ListComp]
  refine wpAny_comprehension_free (use := none) rfl hs hclos hkind hnames (wpAny_mono h (fun xv s₁ h₁ => ?_) fun _ _ e => e)
  obtain ⟨r, a, b, t, u, v, n, news, rfl, hh, F, N, hr, hsm, hn, hsz, R⟩ := h₁
  refine wpAny_pyIter_range hr hsm ?_
  refine block_X (RR := fun acc C => compPost (model prog w) A E none Q acc C) hh hsz hcf hpc hkind hx (by rw [hn]; simpa using Heap.get?_push_size _ rfl) (F.push _) (fun p hp => ⟨Heap.get?_push_of_some _ (N p hp).1, (N p hp).2⟩) (Nat.ne_of_lt F.ns.lt) (next_is_new F) (fun p hp => Nat.ne_of_lt (Heap.lt_size (N p hp).1)) (R _) ?_
  intro D C h tk m' ys news' F' N' o1 hn hC₀ hCL hCD offC fin
  refine ⟨m', hn, fun h'' hs'' => fin D h'' tk (F'.change hs'' hCL hC₀) (fun p hp => ?_) o1⟩
  refine ⟨hs''.extBut _ _ ?_ (N' p hp).1, (N' p hp).2⟩
  rcases List.mem_cons.mp hp with rfl | hp
  · exact Ne.symm hCD
  · exact offC p hp
end

/-- a for over a range, its target left to the walk -/
def rngItems (a : Int) : Nat → List Itm
  | 0 => []
  | n + 1 => .tok (fun t => .int a t) :: rngItems (a + 1) n
theorem rngItems_length : ∀ (n : Nat) (a : Int), (rngItems a n).length = n
  | 0, _ => rfl
  | n + 1, a => by simp [rngItems, rngItems_length n]
theorem rngItems_get : ∀ (n i : Nat) (a : Int), i < n → (rngItems a n)[i]? = some (.tok fun t => .int (a + (i : Int)) t)
  | n + 1, 0, a, _ => by simp [rngItems]
  | n + 1, i + 1, a, h => by
    have q := rngItems_get n i (a + 1) (Nat.lt_of_succ_lt_succ h)
    simp only [rngItems, List.getElem?_cons_succ, q]
    congr 2
    funext t
    congr 1
    omega
theorem letGo_rngiter {prog : Program} {w : World} {A : Around} {E : Value → Shared → Prop} {target : PySem.Expr} {I : Addr} {x y z : Int} {v : Value} {Q' : Unit → Shared → Prop} {s' : Shared} (hit : IsRangeIter s'.heap I x y z) (h : Q' () s') :
    wpAny (model prog w) A (letOwnedTupleGo target (.ref I) v) Q' E s' := by
  unfold letOwnedTupleGo
  cases target <;> first
    | exact wpAny_pure h
    | (cases v <;> first
        | exact wpAny_pure h
        | (refine wpAny_bind (wpAny_load hit ?_)
           exact wpAny_pure h))
theorem rangeTurns {prog : Program} {w : World} {A : Around} {E : Value → Shared → Prop} {s : Shared} {env : Env} {h₀ : Heap} {target : PySem.Expr} {body : List Stmt} {Q : Flow → Shared → Prop} {r : Addr} {a b : Int} {t u v : Tok} {n : Nat} {m₀ : Str → Option Value} {news : Led}
    (hh : A.handled = none) (hr : IsRange s.heap r a b 1 t u v) (hsmall : Builtin.Range.small a b 1 = true) (hn : Builtin.Range.rangeSize a b 1 = (n : Int)) (F : Fr h₀ env.locals s.heap m₀) (N : News h₀ env.locals s.heap news)
    (rest₀ : ∀ I : Addr, (∀ p ∈ news, p.1 < I) → ItemsRest prog w A E h₀ env target body Q s [(I, "range_iterator")] [] (rngItems a n) m₀ news) :
    wpAny (model prog w) A (pyIter (.ref r)) (fun it s₂ => TurnsAt prog w A h₀ env target body Q E it s₂) E s := by
  refine wpAny_pyIter_range hr hsmall ?_
  refine ktu_core (tk0 := s.toks) (keep := []) (KTurns.ofWalks (LCg.range_walks (prog := prog) (w := w) (A := A) (I := s.heap.objs.size) hh a n).bound fun i v s Q E st q => letGo_rngiter st q) (by rw [rngItems_length]) (fun i v h hp => ?_) (fun i h st => ?_) (fun b hb => ?_) (fun b hb => by simpa using hb) (fun b hb => ?_) ?_ (fun p hp hI => ?_) ?_ (F.push _) (fun p hp => ⟨Heap.get?_push_of_some _ (N p hp).1, (N p hp).2⟩) trivial (rest₀ _ fun p hp => Heap.lt_size (N p hp).1)
  · obtain ⟨hi, t, rfl⟩ := hp
    exact ⟨_, rngItems_get n i a hi, t, rfl⟩
  · exact ⟨[(s.heap.objs.size, _)], ⟨⟨rfl, rfl⟩, trivial⟩, fun p hp => by rw [List.mem_singleton.mp hp]; exact st⟩
  · have hb' : b = s.heap.objs.size := by simpa using hb
    rw [hb']
    exact ⟨List.mem_cons_self .., next_is_new F⟩
  · have hb' : b = s.heap.objs.size := by simpa using hb
    exact .inl (by simp [hb'])
  · intro hI
    exact absurd F.ns.lt ((List.mem_singleton.mp hI) ▸ Nat.lt_irrefl _)
  · exact absurd (Heap.lt_size (N p hp).1) ((List.mem_singleton.mp hI) ▸ Nat.lt_irrefl _)
  · rw [hn]; simpa using Heap.get?_push_size _ rfl
theorem unrEnd {h₀ : Heap} {L I : Addr} {oI : Obj} {rest : (Str → Option Value) → Led → Prop} {s₁ : Shared} {h' : Heap} {tk : Nat} {m' : Str → Option Value} {all news' : Led} (F : Fr h₀ L h' m') (N : News h₀ L h' all) (P : Pick (I, oI) all news') (off : ∀ p ∈ news', p.1 ≠ I) (r : rest m' news') :
    UnrEndW h₀ L s₁ [(I, oI)] rest { s₁ with heap := h', toks := tk } := ⟨h', tk, m', news', rfl, F, fun p hp => N p (P.sub p hp), fun p hp q hq e => off p hp (by rw [e, List.mem_singleton.mp hq]), r⟩
theorem nt_append {prog : Program} {w : World} {A : Around} {E : Value → Shared → Prop} {s : Shared} {h₀ : Heap} {L l : Addr} {m : Str → Option Value} {xs : List Value} {c : Nat} {v : Value} {all rest : Led} {Q : Value → Shared → Prop}
    (F : Fr h₀ L s.heap m) (N : News h₀ L s.heap all) (P : Pick (l, listOf xs.toArray c) all rest) (off : ∀ p ∈ rest, p.1 ≠ l) (hsz : xs.length ≤ sizeLine)
    (h : ∀ h', Fr h₀ L h' m → News h₀ L h' ((l, listOf (xs ++ [v]).toArray (c + 1)) :: rest) → Q .none { s with heap := h' }) :
    wpAny (model prog w) A (call (.builtin "list.append") [.ref l, v]) Q E s := by
  have q := N _ (P.sub _ (.head _))
  refine append_at (hsz := by rw [List.size_toArray]; exact hsz) q.1 fun h' hs hl => h h' (F.change hs q.2.1 q.2.2) fun p hp => ?_
  rcases List.mem_cons.mp hp with rfl | hp
  · exact ⟨hl.trans (by rw [List.push_toArray]), q.2⟩
  · have z := N _ (P.sub _ (.tail _ hp))
    exact ⟨hs.extBut _ _ (off p hp) z.1, z.2⟩
end
-- NtOrd
section
open PySem PySem.W PySem.Spec PySem.Calls PyProof.Rows PySem.SeqAt PyProof.Rows.LCg
section
variable {a d I C X D : Addr} {o : Obj} {l T : Led}
theorem allLt_mem : ∀ {l : Led}, AllLt d l → (a, o) ∈ l → a < d
  | _ :: _, h, m => by
    rcases List.mem_cons.mp m with e | m
    · cases e; exact h.1
    · exact allLt_mem h.2 m
theorem off1_mem : ∀ {l : Led}, Off1 d l → (a, o) ∈ l → a ≠ d := fun h m => off1_all h _ m
theorem o_lt (h : AllLt d l) (m : (a, o) ∈ l) : a ≠ d := Nat.ne_of_lt (allLt_mem h m)
theorem o_gt (h : AllLt d l) (m : (a, o) ∈ l) : d ≠ a := Ne.symm (o_lt h m)
theorem o_1 (h : Off1 d l) (m : (a, o) ∈ l) : a ≠ d := off1_mem h m
theorem o_1' (h : Off1 d l) (m : (a, o) ∈ l) : d ≠ a := Ne.symm (o_1 h m)
theorem o_3I (h : Off3 I C D l) (m : (a, o) ∈ l) : a ≠ I := (h.mem _ m).1
theorem o_3C (h : Off3 I C D l) (m : (a, o) ∈ l) : a ≠ C := (h.mem _ m).2.1
theorem o_3D (h : Off3 I C D l) (m : (a, o) ∈ l) : a ≠ D := (h.mem _ m).2.2
theorem o_4I (h : Off4 I C X D l) (m : (a, o) ∈ l) : a ≠ I := (h.mem _ m).1
theorem o_4C (h : Off4 I C X D l) (m : (a, o) ∈ l) : a ≠ C := (h.mem _ m).2.1
theorem o_4X (h : Off4 I C X D l) (m : (a, o) ∈ l) : a ≠ X := (h.mem _ m).2.2.1
theorem o_4D (h : Off4 I C X D l) (m : (a, o) ∈ l) : a ≠ D := (h.mem _ m).2.2.2
theorem all_lt (h : AllLt d l) (s : Sub T l) : ∀ p ∈ T, p.1 ≠ d := fun p hp => o_lt (o := p.2) h (s p hp)
theorem all_1 (h : Off1 d l) (s : Sub T l) : ∀ p ∈ T, p.1 ≠ d := fun p hp => o_1 (o := p.2) h (s p hp)
theorem all_3I (h : Off3 I C D l) (s : Sub T l) : ∀ p ∈ T, p.1 ≠ I := fun p hp => o_3I (o := p.2) h (s p hp)
theorem all_3C (h : Off3 I C D l) (s : Sub T l) : ∀ p ∈ T, p.1 ≠ C := fun p hp => o_3C (o := p.2) h (s p hp)
theorem all_3D (h : Off3 I C D l) (s : Sub T l) : ∀ p ∈ T, p.1 ≠ D := fun p hp => o_3D (o := p.2) h (s p hp)
theorem all_4I (h : Off4 I C X D l) (s : Sub T l) : ∀ p ∈ T, p.1 ≠ I := fun p hp => o_4I (o := p.2) h (s p hp)
theorem all_4C (h : Off4 I C X D l) (s : Sub T l) : ∀ p ∈ T, p.1 ≠ C := fun p hp => o_4C (o := p.2) h (s p hp)
theorem all_4X (h : Off4 I C X D l) (s : Sub T l) : ∀ p ∈ T, p.1 ≠ X := fun p hp => o_4X (o := p.2) h (s p hp)
theorem all_4D (h : Off4 I C X D l) (s : Sub T l) : ∀ p ∈ T, p.1 ≠ D := fun p hp => o_4D (o := p.2) h (s p hp)
end
theorem cn1 {L : Nat} : L + 1 ≠ L := by omega
theorem cn2 {L : Nat} : L + 1 + 1 ≠ L := by omega
theorem cn3 {L : Nat} : L + 1 + 1 + 1 ≠ L := by omega
theorem cn4 {L : Nat} : L + 1 + 1 + 1 + 1 ≠ L := by omega
theorem cn5 {L : Nat} : L + 1 + 1 + 1 + 1 + 1 ≠ L := by omega
theorem cn6 {L : Nat} : L + 1 + 1 + 1 + 1 + 1 + 1 ≠ L := by omega
theorem cn7 {L : Nat} : L + 1 + 1 + 1 + 1 + 1 + 1 + 1 ≠ L := by omega
theorem cnS {a b : Nat} (h : a ≠ b) : a + 1 ≠ b + 1 := by omega
end
local macro_rules | `(tactic| k_lt $h:ident) => `(tactic| (k_extra "k_lt"; (replace $h := allLt_of $h)))
-- NtCopy
section
open PySem PySem.W PySem.Spec PySem.Calls PyProof.Rows PySem.SeqAt
theorem c_copied (w : World) (news : Led) (P : Addr) (a b c d : Int) (hP : PlaneIn w news P a b c d) :
   Con w 159 [.ref P] news 10 (fun h₀ L m Q => ∀ (x dx rl r0 r1 : Addr) (tx ty k1 k2 k3 ta tb tc td : Tok) (c1 c2 c3 : Nat) (h' : Heap) (tk' : Nat), Fr h₀ L h' m →
     News h₀ L h' ((x, instObj 84 dx) :: (dx, planeD w 2 2 rl tx ty k1 k2 k3) :: (rl, listOf #[.ref r0, .ref r1] c1) :: (r1, listOf #[.int c tc, .int d td] c3) :: (r0, listOf #[.int a ta, .int b tb] c2) :: news) →
     LCg.Off1 x news → LCg.Off1 dx news → LCg.Off1 rl news → LCg.Off1 r1 news → LCg.Off1 r0 news → Q (.ref x) h' tk') := by
  w_top off
  k_with_none
  k_with "k_room" => skip
  k_with "units_room" => skip
  k_with "k_all" => ((repeat ((refine' List.forall_mem_cons.mpr ⟨?ha, ?_⟩); (case ha => k_ne))); (first | exact List.forall_mem_nil _ | assumption | exact off1_all (by assumption) | exact allLt_ne (by assumption) (by (try dsimp only); omega) | ((with_reducible rename _ ∧ AllLt _ _ => hx9); exact allLt_ne hx9.2 (by (try dsimp only); omega)) | ((with_reducible rename _ ∧ _ ∧ AllLt _ _ => hx9); exact allLt_ne hx9.2.2 (by (try dsimp only); omega)) | ((with_reducible rename _ ∧ _ ∧ _ ∧ AllLt _ _ => hx9); exact allLt_ne hx9.2.2.2 (by (try dsimp only); omega))))
  k_with "lcg_sub" => first | with_reducible assumption | ((with_reducible (repeat' (first | exact List.mem_cons_self | assumption | refine List.mem_cons_of_mem _ ?_))); done)
  k_with "k_mem" => first | with_reducible assumption | ((with_reducible (repeat' (first | exact List.mem_cons_self | assumption | refine List.mem_cons_of_mem _ ?_))); done)
  k_with "lcg_off" => first | exact True.intro | assumption | (refine And.intro (by first | assumption | exact ⟨by k_ne, by k_ne, by k_ne⟩) ?_; lcg_off)
  k_with "k_lt" => skip
  k_with "k_ne" => (refine neN ?_; (try dsimp only); first | with_reducible assumption | exact Ne.symm (by with_reducible assumption) | exact o_gt (by with_reducible assumption) (by lcg_sub) | exact o_1' (by with_reducible assumption) (by lcg_sub) | exact o_lt (by with_reducible assumption) (by lcg_sub) | exact o_1 (by with_reducible assumption) (by lcg_sub) | exact o_3I (by with_reducible assumption) (by lcg_sub) | exact Ne.symm (o_3I (by with_reducible assumption) (by lcg_sub)) | exact o_3C (by with_reducible assumption) (by lcg_sub) | exact Ne.symm (o_3C (by with_reducible assumption) (by lcg_sub)) | exact o_3D (by with_reducible assumption) (by lcg_sub) | exact Ne.symm (o_3D (by with_reducible assumption) (by lcg_sub)) | exact o_4I (by with_reducible assumption) (by lcg_sub) | exact Ne.symm (o_4I (by with_reducible assumption) (by lcg_sub)) | exact o_4C (by with_reducible assumption) (by lcg_sub) | exact Ne.symm (o_4C (by with_reducible assumption) (by lcg_sub)) | exact o_4X (by with_reducible assumption) (by lcg_sub) | exact Ne.symm (o_4X (by with_reducible assumption) (by lcg_sub)) | exact o_4D (by with_reducible assumption) (by lcg_sub) | exact Ne.symm (o_4D (by with_reducible assumption) (by lcg_sub)) | ((repeat (first | exact cn1 | exact cn2 | exact cn3 | exact cn4 | exact cn5 | exact cn6 | exact cn7 | exact Ne.symm cn1 | exact Ne.symm cn2 | exact Ne.symm cn3 | exact Ne.symm cn4 | exact Ne.symm cn5 | exact Ne.symm cn6 | exact Ne.symm cn7 | refine cnS ?_)); done))
  k_with "k_all" => ((repeat ((refine' List.forall_mem_cons.mpr ⟨?ha, ?_⟩); (case ha => k_ne))); (first | exact List.forall_mem_nil _ | with_reducible assumption | exact all_lt (by with_reducible assumption) (by (repeat' (first | with_reducible assumption | exact Sub.refl | refine Sub.cons ?_))) | exact all_1 (by with_reducible assumption) (by (repeat' (first | with_reducible assumption | exact Sub.refl | refine Sub.cons ?_))) | exact all_3I (by with_reducible assumption) (by (repeat' (first | with_reducible assumption | exact Sub.refl | refine Sub.cons ?_))) | exact all_3C (by with_reducible assumption) (by (repeat' (first | with_reducible assumption | exact Sub.refl | refine Sub.cons ?_))) | exact all_3D (by with_reducible assumption) (by (repeat' (first | with_reducible assumption | exact Sub.refl | refine Sub.cons ?_))) | exact all_4I (by with_reducible assumption) (by (repeat' (first | with_reducible assumption | exact Sub.refl | refine Sub.cons ?_))) | exact all_4C (by with_reducible assumption) (by (repeat' (first | with_reducible assumption | exact Sub.refl | refine Sub.cons ?_))) | exact all_4X (by with_reducible assumption) (by (repeat' (first | with_reducible assumption | exact Sub.refl | refine Sub.cons ?_))) | exact all_4D (by with_reducible assumption) (by (repeat' (first | with_reducible assumption | exact Sub.refl | refine Sub.cons ?_))) | exact allLt_ne (by with_reducible assumption) (by repeat (first | exact Nat.le_refl _ | refine Nat.le_succ_of_le ?_))))
  k_with "k_enter" => skip
  k_with "FinE" => ((unfold LCg.FinE); intro D' h' tk' F' N' o1'; (try simp only [List.nil_append, List.cons_append] at N'); (try dsimp only))
  k_with "FinA" => ((unfold LCg.FinA); intro D' h' tk' F' N' o1'; (try simp only [List.nil_append, List.cons_append] at N'); (try dsimp only))
  k_with "CompEnd" => (refine' nt_compEnd ?F ?N ?P1 ?P2 ?P3 ?off ?S ?_; (case F => assumption); (case N => assumption); (case P1 => repeat' (first | exact Pick.head | refine' Pick.tail ?_)); (case P2 => repeat' (first | exact Pick.head | refine' Pick.tail ?_)); (case P3 => repeat' (first | exact Pick.head | refine' Pick.tail ?_)); (case off => lcg_off); (case S => first | lcg_src | assumption))
  k_with "eval ListComp" => (k_here; (with_reducible show wpAny _ _ (eval (PySem.Expr.ListComp _ [⟨PySem.Expr.Name _ _, _, [], _⟩] _ _) _) _ _ _); (try k_fold); k_dflt (refine LCg.ListComp_U (F₀ := by k_asm) (by with_unfolding_all rfl) (by decide) (by rfl) (by decide) (by rfl) ?_))
  k_with "exec Assign cons ListComp" => (k_here; k_dflt (refine LCg.Assign_ListComp_U (F₀ := by k_asm) (by rfl) (by with_unfolding_all rfl) (by with_unfolding_all rfl) (by decide) (by rfl) (by decide) (by rfl) (by rfl) (by rfl) ?_))
  k_with "eval ListComp" => (k_here; (with_reducible show wpAny _ _ (eval (PySem.Expr.ListComp _ [⟨PySem.Expr.Name _ _, _, [_], _⟩] _ _) _) _ _ _); (try k_fold); k_dflt (refine LCt.ListComp_T (F₀ := by k_asm) (by with_unfolding_all rfl) (by decide) (by rfl) (by decide) (by rfl) ?_))
  k_with "CompSrcT" => (k_here; k_dflt (first | (refine LCt.CompSrcT.ledger (by rfl) (by k_asm) (by k_asm) (by lcg_sub) (by first | exact Nat.le_of_ble_eq_true rfl | size_fits) ?_; intro g'; lct_lit) | (refine LCt.CompSrcT.range (by rfl) (by k_asm) (by k_asm) (by assumption) (by first | decide | rfl) (by first | rfl | decide) (by first | exact Nat.le_of_ble_eq_true rfl | size_fits) ?_; intro g'; lct_lit)))
  k_with "CompRestT" => (with_unfolding_all first | (refine LCt.CompRestT.succ ?_; intro v' I' oI' C' oC' D' m' h' tk' E' hv' hC' hx' F' N' off' ne'; (first | lcg_open hv' | (obtain ⟨t9', hv9'⟩ := hv'; subst hv9')); (obtain ⟨ne1', ne2', ne3'⟩ := ne')) | refine LCt.CompRestT.zero ?_)
  k_with "CompSrc" => (k_here; k_dflt (first | (refine LCg.CompSrc.ledger (by rfl) (by k_asm) (by k_asm) (by lcg_sub) (by first | exact Nat.le_of_ble_eq_true rfl | size_fits) ?_; intro g'; lcg_lit) | (refine LCg.CompSrc.range (by rfl) (by k_asm) (by k_asm) (by assumption) (by first | decide | rfl) (by first | rfl | decide) (by first | exact Nat.le_of_ble_eq_true rfl | size_fits) ?_; intro g'; lcg_lit)))
  k_with "CompRest" => (with_unfolding_all first | (refine LCg.CompRest.succ ?_; intro v' I' oI' C' oC' D' m' h' tk' E' hv' hC' hx' F' N' off' ne'; (first | lcg_open hv' | (obtain ⟨t9', hv9'⟩ := hv'; subst hv9')); (obtain ⟨ne1', ne2', ne3'⟩ := ne')) | refine LCg.CompRest.zero ?_)
  k_with "execs cons" => ((with_reducible refine gen_toks (fun tk => ?_)); (with_reducible refine wpAny_execs_cons ?_); (try dsimp only); (try k_fold))
  k_with "subscriptTail" => (k_here; (with_reducible show wpAny _ _ (subscriptTail _ _ (Value.ref _) (Value.int _ _)) _ _ _); k_dflt (first | (refine' nt_item ?N ?hm ?k2 ?k3 ?k4 ?_ ?k6; (case N => k_asm); (case hm => lcg_sub); (case k2 => decide); (case k3 => decide); (case k4 => exact rfl); (case k6 => with_unfolding_all rfl); k_whole) | (refine' nt_itemK ?X ?F ?hl ?k2 ?k3 ?k4 ?_ ?k6 ?k7; (case F => k_asm); (case X => k_asm); (case hl => k_is); (case k2 => decide); (case k3 => decide); (case k4 => exact rfl); (case k6 => with_unfolding_all rfl); (case k7 => intro _; with_unfolding_all rfl); k_whole) | (refine' nt_itemT ?N ?hm ?k2 ?k3 ?k4 ?_ ?k6 ?k7; (case N => k_asm); (case hm => lcg_sub); (case k2 => decide); (case k3 => decide); (case k4 => exact rfl); (case k6 => with_unfolding_all rfl); (case k7 => intro _; with_unfolding_all rfl); k_whole)))
  k_with "subscriptTail Name Constant ref int" => (k_here; (with_reducible show wpAny _ _ (subscriptTail _ _ (Value.ref _) (Value.int _ _)) _ _ _); k_dflt (first | (refine' nt_item ?N ?hm ?k2 ?k3 ?k4 ?_ ?k6; (case N => k_asm); (case hm => lcg_sub); (case k2 => decide); (case k3 => decide); (case k4 => exact rfl); (case k6 => with_unfolding_all rfl); k_whole) | (refine' nt_itemK ?X ?F ?hl ?k2 ?k3 ?k4 ?_ ?k6 ?k7; (case F => k_asm); (case X => k_asm); (case hl => k_is); (case k2 => decide); (case k3 => decide); (case k4 => exact rfl); (case k6 => with_unfolding_all rfl); (case k7 => intro _; with_unfolding_all rfl); k_whole) | (refine' nt_itemT ?N ?hm ?k2 ?k3 ?k4 ?_ ?k6 ?k7; (case N => k_asm); (case hm => lcg_sub); (case k2 => decide); (case k3 => decide); (case k4 => exact rfl); (case k6 => with_unfolding_all rfl); (case k7 => intro _; with_unfolding_all rfl); k_whole)))
  k_with "subscriptTail Name Name ref int" => (k_here; (with_reducible show wpAny _ _ (subscriptTail _ _ (Value.ref _) (Value.int _ _)) _ _ _); k_dflt (first | (refine' nt_item ?N ?hm ?k2 ?k3 ?k4 ?_ ?k6; (case N => k_asm); (case hm => lcg_sub); (case k2 => decide); (case k3 => decide); (case k4 => exact rfl); (case k6 => with_unfolding_all rfl); k_whole) | (refine' nt_itemK ?X ?F ?hl ?k2 ?k3 ?k4 ?_ ?k6 ?k7; (case F => k_asm); (case X => k_asm); (case hl => k_is); (case k2 => decide); (case k3 => decide); (case k4 => exact rfl); (case k6 => with_unfolding_all rfl); (case k7 => intro _; with_unfolding_all rfl); k_whole) | (refine' nt_itemT ?N ?hm ?k2 ?k3 ?k4 ?_ ?k6 ?k7; (case N => k_asm); (case hm => lcg_sub); (case k2 => decide); (case k3 => decide); (case k4 => exact rfl); (case k6 => with_unfolding_all rfl); (case k7 => intro _; with_unfolding_all rfl); k_whole)))
  k_with "subscriptTail Attribute Name Constant ref int" => (k_here; (with_reducible show wpAny _ _ (subscriptTail _ _ (Value.ref _) (Value.int _ _)) _ _ _); k_dflt (first | (refine' nt_item ?N ?hm ?k2 ?k3 ?k4 ?_ ?k6; (case N => k_asm); (case hm => lcg_sub); (case k2 => decide); (case k3 => decide); (case k4 => exact rfl); (case k6 => with_unfolding_all rfl); k_whole) | (refine' nt_itemK ?X ?F ?hl ?k2 ?k3 ?k4 ?_ ?k6 ?k7; (case F => k_asm); (case X => k_asm); (case hl => k_is); (case k2 => decide); (case k3 => decide); (case k4 => exact rfl); (case k6 => with_unfolding_all rfl); (case k7 => intro _; with_unfolding_all rfl); k_whole) | (refine' nt_itemT ?N ?hm ?k2 ?k3 ?k4 ?_ ?k6 ?k7; (case N => k_asm); (case hm => lcg_sub); (case k2 => decide); (case k3 => decide); (case k4 => exact rfl); (case k6 => with_unfolding_all rfl); (case k7 => intro _; with_unfolding_all rfl); k_whole)))
  k_with "subscriptTail Attribute Name Name ref int" => (k_here; (with_reducible show wpAny _ _ (subscriptTail _ _ (Value.ref _) (Value.int _ _)) _ _ _); k_dflt (first | (refine' nt_item ?N ?hm ?k2 ?k3 ?k4 ?_ ?k6; (case N => k_asm); (case hm => lcg_sub); (case k2 => decide); (case k3 => decide); (case k4 => exact rfl); (case k6 => with_unfolding_all rfl); k_whole) | (refine' nt_itemK ?X ?F ?hl ?k2 ?k3 ?k4 ?_ ?k6 ?k7; (case F => k_asm); (case X => k_asm); (case hl => k_is); (case k2 => decide); (case k3 => decide); (case k4 => exact rfl); (case k6 => with_unfolding_all rfl); (case k7 => intro _; with_unfolding_all rfl); k_whole) | (refine' nt_itemT ?N ?hm ?k2 ?k3 ?k4 ?_ ?k6 ?k7; (case N => k_asm); (case hm => lcg_sub); (case k2 => decide); (case k3 => decide); (case k4 => exact rfl); (case k6 => with_unfolding_all rfl); (case k7 => intro _; with_unfolding_all rfl); k_whole)))
  k_with "subscriptTail Subscript Name ref int" => (k_here; (with_reducible show wpAny _ _ (subscriptTail _ _ (Value.ref _) (Value.int _ _)) _ _ _); k_dflt (first | (refine' nt_item ?N ?hm ?k2 ?k3 ?k4 ?_ ?k6; (case N => k_asm); (case hm => lcg_sub); (case k2 => decide); (case k3 => decide); (case k4 => exact rfl); (case k6 => with_unfolding_all rfl); k_whole) | (refine' nt_itemK ?X ?F ?hl ?k2 ?k3 ?k4 ?_ ?k6 ?k7; (case F => k_asm); (case X => k_asm); (case hl => k_is); (case k2 => decide); (case k3 => decide); (case k4 => exact rfl); (case k6 => with_unfolding_all rfl); (case k7 => intro _; with_unfolding_all rfl); k_whole) | (refine' nt_itemT ?N ?hm ?k2 ?k3 ?k4 ?_ ?k6 ?k7; (case N => k_asm); (case hm => lcg_sub); (case k2 => decide); (case k3 => decide); (case k4 => exact rfl); (case k6 => with_unfolding_all rfl); (case k7 => intro _; with_unfolding_all rfl); k_whole)))
  k_with "subscriptTail Subscript Constant ref int" => (k_here; (with_reducible show wpAny _ _ (subscriptTail _ _ (Value.ref _) (Value.int _ _)) _ _ _); k_dflt (first | (refine' nt_item ?N ?hm ?k2 ?k3 ?k4 ?_ ?k6; (case N => k_asm); (case hm => lcg_sub); (case k2 => decide); (case k3 => decide); (case k4 => exact rfl); (case k6 => with_unfolding_all rfl); k_whole) | (refine' nt_itemK ?X ?F ?hl ?k2 ?k3 ?k4 ?_ ?k6 ?k7; (case F => k_asm); (case X => k_asm); (case hl => k_is); (case k2 => decide); (case k3 => decide); (case k4 => exact rfl); (case k6 => with_unfolding_all rfl); (case k7 => intro _; with_unfolding_all rfl); k_whole) | (refine' nt_itemT ?N ?hm ?k2 ?k3 ?k4 ?_ ?k6 ?k7; (case N => k_asm); (case hm => lcg_sub); (case k2 => decide); (case k3 => decide); (case k4 => exact rfl); (case k6 => with_unfolding_all rfl); (case k7 => intro _; with_unfolding_all rfl); k_whole)))
  k_with "setItem ref int" => (k_here; k_dflt (refine' ki_set ?F ?N ?k2 ?k3 ?k4 ?U ?_; (case F => k_asm); (case N => k_asm); (case U => k_upd); (case k2 => decide); (case k3 => decide); (case k4 => exact rfl); k_whole); intro h' F' N'; (try k_sweep))
  k_with "eval Name" => (k_here; (with_reducible show wpAny _ _ (eval (Expr.Name _ _) (envOf _ _ _ _ _)) _ _ _); (with_reducible rename Fr _ _ _ _ => kF); k_dflt (first | (name_kind "local"; (refine' ld kF ?k2 ?_ ?a ?b ?c; (case k2 => exact rfl); (case a => kernel_rfl!); (case b => kernel_rfl!); (case c => decide +kernel)); k_whole) | (name_kind "globalImplicit"; (refine' name_K kF ?k1 ?k2 ?k3 ?_ ?a ?b ?c; (case k1 => k_asm); (case k2 => k_asm); (case k3 => k_is); (case a => kernel_rfl!); (case b => kernel_rfl!); (case c => decide +kernel); k_whole)) | (refine' name_B kF ?k1 ?k2 ?k3 ?k4 ?k5 ?_; (case k1 => k_asm); (case k2 => k_asm); (case k3 => k_is); (case k4 => boot_by_name); (case k5 => decide); k_whole)))
  k_with "compareOp NotEq ref ref" => (k_here; k_dflt (first | (with_reducible refine' ne_t3 ?N ?ha ?hb ?e1 ?e2 ?e3 ?hu ?_; (case N => k_asm); (case ha => lcg_sub); (case hb => lcg_sub); (case e1 => first | assumption | exact (Grey.h (by assumption) (by assumption) (by assumption)).1 | exact (Grey2.h (by assumption) (by assumption) (by assumption)).1 | rfl); (case e2 => first | assumption | exact (Grey.h (by assumption) (by assumption) (by assumption)).2.1 | exact (Grey2.h (by assumption) (by assumption) (by assumption)).2.1 | rfl); (case e3 => first | assumption | exact (Grey.h (by assumption) (by assumption) (by assumption)).2.2 | exact (Grey2.h (by assumption) (by assumption) (by assumption)).2.2 | rfl); (case hu => units_room)) | (with_reducible refine' ne_l3 ?N ?ha ?hb ?e1 ?e2 ?e3 ?hu ?_; (case N => k_asm); (case ha => lcg_sub); (case hb => lcg_sub); (case e1 => first | assumption | exact (Grey.h (by assumption) (by assumption) (by assumption)).1 | exact (Grey2.h (by assumption) (by assumption) (by assumption)).1 | rfl); (case e2 => first | assumption | exact (Grey.h (by assumption) (by assumption) (by assumption)).2.1 | exact (Grey2.h (by assumption) (by assumption) (by assumption)).2.1 | rfl); (case e3 => first | assumption | exact (Grey.h (by assumption) (by assumption) (by assumption)).2.2 | exact (Grey2.h (by assumption) (by assumption) (by assumption)).2.2 | rfl); (case hu => units_room)) | (with_reducible refine' ne_l0 ?N ?ha ?hb ?hu ?_; (case N => k_asm); (case ha => lcg_sub); (case hb => lcg_sub); (case hu => units_room))))
  k_with "compareOp Eq ref ref" => (k_here; k_dflt ((with_reducible refine' eq_l0 ?N ?ha ?hb ?hu ?_; (case N => k_asm); (case ha => lcg_sub); (case hb => lcg_sub); (case hu => units_room))))
  k_with "eval Call" => ((with_reducible show wpAny _ _ (eval (Expr.Call (Expr.Name _ _) _ [] _) (envOf _ _ _ _ _)) _ _ _); k_dflt (refine Call_ ?_))
  k_with "call builtin:list.append" => (k_here; (with_reducible show wpAny _ _ (call (Value.builtin _) [Value.ref _, _]) _ _ _); k_dflt (refine' nt_append ?F ?N ?P ?off ?hsz ?_; (case F => k_asm); (case N => k_asm); (case P => repeat' (first | exact Pick.head | refine' Pick.tail ?_)); (case off => k_all); (case hsz => first | exact Nat.le_of_ble_eq_true rfl | size_fits)); intro h' F' N'; (try simp only [List.cons_append, List.nil_append] at N'); (try k_sweep))
  k_with "exec For Name Call cons nil" => (k_here; (with_reducible rename Fr _ _ _ _ => lF'); (with_unfolding_all refine' For_turns lF' ?_; k_whole))
  k_with "pyIter ref" => (k_here; (with_reducible show wpAny _ _ (pyIter (Value.ref _)) (fun it s₂ => TurnsAt _ _ _ _ _ _ _ _ _ it s₂) _ _); k_dflt (refine' rangeTurns ?hh ?hr ?hs ?hn ?F ?N ?_; (case hh => rfl); (case hr => assumption); (case hs => first | decide | rfl); (case hn => first | rfl | decide); (case F => k_asm); (case N => k_asm)); intro i' l1'; (try k_lt l1'))
  k_with "UnrEndW" => (refine' unrEnd ?F ?N ?P ?off ⟨trivial, ?_⟩; (case F => assumption); (case N => assumption); (case P => repeat' (first | exact Pick.head | refine' Pick.tail ?_)); (case off => k_all))
  k_with "eval ListComp" => (k_here; (with_reducible show wpAny _ _ (eval (PySem.Expr.ListComp _ [⟨PySem.Expr.Name _ _, _, [], _⟩] _ _) _) _ _ _); (try k_fold); k_dflt (refine ListComp_X (F₀ := by k_asm) (by with_unfolding_all rfl) (by intro _; rfl) (by intro _; rfl) (by rfl) (by decide) (by rfl) ?_))
  k_with "SrcX" => (k_here; k_dflt (refine SrcX.intro (by rfl) (by k_asm) (by k_asm) (by assumption) (by first | decide | rfl) (by first | rfl | decide) (by first | exact Nat.le_of_ble_eq_true rfl | size_fits) ?_; intro g'))
  k_with "RestX" => (with_unfolding_all first | (refine RestX.succ ?_; intro t' I' oI' C' oC' X' oX' D' h' tk' E' hX' F' N' off' ne'; (obtain ⟨ne1', ne2', ne3', ne4', ne5', ne6'⟩ := ne')) | refine RestX.zero ?_)
  k_with "EndX" => (refine' EndX.intro ?F ?N ?P1 ?P2 ?P3 ?P4 ?off ?_; (case F => assumption); (case N => assumption); (case P1 => repeat' (first | exact Pick.head | refine' Pick.tail ?_)); (case P2 => repeat' (first | exact Pick.head | refine' Pick.tail ?_)); (case P3 => repeat' (first | exact Pick.head | refine' Pick.tail ?_)); (case P4 => repeat' (first | exact Pick.head | refine' Pick.tail ?_)); (case off => repeat' (first | exact True.intro | assumption | (refine And.intro (by first | assumption | exact ⟨by k_ne, by k_ne, by k_ne, by k_ne⟩) ?_))))
  k_with "call ref" => (k_here; (with_reducible show wpAny _ _ (call (Value.ref 84) _) _ _ _); k_dflt (refine' Con.use (c_plane _ _ _ _ _ _ _) ?B ?F ?X ?N ?T ?hk ?hd ?hu ?_; (case F => k_asm); (case N => k_asm); (case T => k_asm); (case X => k_asm); (case B => k_asm); (case hk => first | exact rfl | assumption); (case hd => ktr_room); (case hu => ktr_units); k_whole); intro x' d' k1' k2' k3' h' tk' F' N' l1' l2' l3'; skip; (try k_sweep))
  k_with "call ref" => (k_here; (with_reducible show wpAny _ _ (call (Value.ref 122) _) _ _ _); k_dflt (refine' Con.use (c_pic _ _ _ _ _ _ _) ?B ?F ?X ?N ?T ?hk ?hd ?hu ?_; (case F => k_asm); (case N => k_asm); (case T => k_asm); (case X => k_asm); (case B => k_asm); (case hk => first | exact rfl | assumption); (case hd => ktr_room); (case hu => ktr_units); k_whole); intro x' d' k1' k2' k3' h' tk' F' N' l1' l2' l3'; skip; (try k_sweep))
  k_with "call ref" => (k_here; (with_reducible show wpAny _ _ (call (Value.ref 228) _) _ _ _); k_dflt (refine' Con.use (c_turning _ _ _ _ _ _ _ _) ?B ?F ?X ?N ?T ?hk ?hd ?hu ?_; (case F => k_asm); (case N => k_asm); (case T => k_asm); (case X => k_asm); (case B => k_asm); (case hk => first | exact rfl | assumption); (case hd => ktr_room); (case hu => ktr_units); k_whole); intro x' d' k1' k2' k3' h' tk' F' N' l1' l2' l3'; skip; (try k_sweep))
  unfold Con
  k_fill
  intro mean mg mb dp un gd cn cs aa ccd cl outer A₀ base h₀ L m s Q E B F X N T hk hd hu hret
  obtain ⟨d0, rl0, r00, r01, tx0, ty0, k10, k20, k30, ta0, tb0, tc0, td0, c10, c20, c30, m10, m20, m30, m40, m50⟩ := hP
  refine wpAny_call ?_
  k_dflt k_enter
  k_steps
  all_goals (rename Fr h₀ L _ _ => hF; rename News h₀ L _ _ => hN)
  refine hret _ _ _ _ _ _ _ _ _ _ _ _ _ _ _ _ _ _ _ hF hN ?_ ?_ ?_ ?_ ?_
  all_goals (refine off1_of ?_; first | exact all_lt (by with_reducible assumption) (by repeat (first | exact Sub.refl | refine Sub.cons ?_)) | exact all_1 (by with_reducible assumption) (by repeat (first | exact Sub.refl | refine Sub.cons ?_)) | k_all)
end
-- NtIn
section
open PySem PySem.W PySem.Spec PySem.Calls PyProof.Rows PySem.SeqAt
section
variable {prog : Program} {w : World} {A : Around} {E : Value → Shared → Prop} {s : Shared} {h₀ : Heap} {L : Addr} {m : Str → Option Value} {news : Led}
/-- items that are pairs of texts -/
inductive PairsAt (h : Heap) : List Value → List (Str × Str) → Prop
  | nil : PairsAt h [] []
  | cons {a : Addr} {x y : Str} {vs : List Value} {ps : List (Str × Str)} (r : Reads h (.ref a) (.tuple [.str x, .str y]) []) (q : PairsAt h vs ps) : PairsAt h (.ref a :: vs) ((x, y) :: ps)
theorem sh2 {x y : Str} (hx : PyData.strOk x = true) (hy : PyData.strOk y = true) : shaped (.tuple [.str x, .str y]) = true := by simp [shaped, PyData.canLay0, PyData.canLayAll0, PyData.depth, PyData.depthAll, hx, hy]
theorem eqv2 (x y u v : Str) : PyData.eqv (.tuple [.str x, .str y]) (.tuple [.str u, .str v]) = (x == u && y == v) := by
  simp [PyData.eqv, PyData.eqvAll]
theorem eqBool_pair {a p : Addr} {x y u v : Str} {Q : Bool → Shared → Prop} (ra : Reads s.heap (.ref a) (.tuple [.str x, .str y]) []) (rp : Reads s.heap (.ref p) (.tuple [.str u, .str v]) []) (hu : A.units + 64 < cLine) (k1 : PyData.strOk x = true) (k2 : PyData.strOk y = true) (k3 : PyData.strOk u = true) (k4 : PyData.strOk v = true)
    (h : Q (x == u && y == v) s) : wpAny (model prog w) A (eqBool (.ref a) (.ref p)) Q E s := by
  unfold eqBool
  refine wpAny_holding ?_
  by_cases hab : (Value.ref a == Value.ref p) = true
  · rw [if_pos hab]
    have e : a = p := by have := eq_of_beq hab; injection this
    subst e
    have e2 := (Reads.unique ra _ _ rp).1
    injection e2 with e2
    injection e2 with e3 e4
    injection e3 with e3
    injection e4 with e4 e5
    injection e4 with e4
    subst e3 e4
    exact wpAny_bind (wpAny_rule (wpAny_pure (by simpa using h)))
  · rw [if_neg hab]
    exact wpAny_bind (eq_dataH ra rp (sh2 k1 k2) (sh2 k3 k4) hu (wpAny_truthy_bool (by rw [eqv2]; exact h)))
def pairsOk : List (Str × Str) → Bool
  | [] => true
  | (x, y) :: r => PyData.strOk x && PyData.strOk y && pairsOk r
theorem tup_contains {t p : Addr} {items : Array Value} {ps : List (Str × Str)} {u v : Str} {P : Fin → Shared → Prop} (ht : IsTup s.heap t items) (hi : PairsAt s.heap items.toList ps) (rp : Reads s.heap (.ref p) (.tuple [.str u, .str v]) []) (hu : A.units + 64 < cLine)
    (k3 : PyData.strOk u = true) (k4 : PyData.strOk v = true) (hok : pairsOk ps = true) (h : P (.done (.ret (.bool (ps.any fun q => q.1 == u && q.2 == v)))) s) : wpAny (model prog w) A (Builtin.«tuple.__contains__» ⟨[.ref t, .ref p], []⟩) P E s := by
  show wpAny _ _ (Builtin.Tuple.tupleItemsOf (.ref t) >>= _) _ _ s
  refine wpAny_bind (tupleItemsOf_ ht ?_)
  refine wpAny_bind (forIn_array_ _ (fun rest b s' => b.1 = none ∧ s' = s ∧ ∃ ms, PairsAt s.heap rest ms ∧ pairsOk ms = true ∧ P (.done (.ret (.bool (ms.any fun q => q.1 == u && q.2 == v)))) s) _ ?_ ?_ items _ ⟨rfl, rfl, ps, hi, hok, h⟩)
  · rintro y rest b s' ⟨hb, rfl, ms, hm, ho, hP⟩
    cases hm with
    | cons r q =>
      simp only [pairsOk, Bool.and_eq_true] at ho
      refine wpAny_bind (eqBool_pair r rp hu ho.1.1 ho.1.2 k3 k4 ?_)
      rw [List.any_cons] at hP
      rename_i a9 x y ps9
      cases hnx : (x == u && y == v) with
      | true =>
        simp only [hnx] at hP ⊢
        exact wpAny_bind (wpAny_pure (wpAny_pure (wpAny_pure (by simpa using hP))))
      | false =>
        simp only [hnx] at hP ⊢
        exact wpAny_pure ⟨rfl, rfl, _, q, ho.2, by simpa using hP⟩
  · rintro ⟨b1, b2⟩ s' ⟨hb, rfl, ms, hm, ho, hP⟩
    cases hm
    simp only at hb
    subst hb
    exact wpAny_pure (by simpa using hP)
theorem in_pairs {t p : Addr} {items : Array Value} {ps : List (Str × Str)} {u v : Str} {Q : Value → Shared → Prop} (ht : IsTup s.heap t items) (hi : PairsAt s.heap items.toList ps) (rp : Reads s.heap (.ref p) (.tuple [.str u, .str v]) []) (hu : A.in1.units + 64 < cLine)
    (k3 : PyData.strOk u = true) (k4 : PyData.strOk v = true) (hok : pairsOk ps = true) (h : Q (.bool (ps.any fun q => q.1 == u && q.2 == v)) s) : wpAny (model prog w) A (compareOp .In (.ref p) (.ref t)) Q E s := by
  show wpAny _ _ (do return .bool (← contains (.ref t) (.ref p))) Q E s
  refine wpAny_bind ?_
  unfold contains
  refine wpAny_holding ?_
  refine wpAny_bind (wpAny_specialOf ht.typeIs slot_tuple_contains.lookup ?_)
  rw [if_neg (by decide)]
  exact wpAny_bind (wpAny_callSpecialUnlessNone?_slot (name := Str.ofString "__contains__") ht.typeIs slot_tuple_contains
    (wpAny_call_entry slot_tuple_contains ht.typeIs entry_tuple_contains (tup_contains ht hi rp hu k3 k4 hok ⟨_, rfl, wpAny_truthy_bool (wpAny_pure h)⟩) (args_tuple_contains _ _)))
theorem rd2 {h : Heap} {a : Addr} {x y : Str} {t u : Tok} {c : Nat} (N : News h₀ L h news) (hm : (a, tupOf #[.str x t, .str y u] c) ∈ news) : Reads h (.ref a) (.tuple [.str x, .str y]) [] :=
  nt_rtup N hm (ReadsAll.cons (Reads.str _ _) (ReadsAll.cons (Reads.str _ _) ReadsAll.nil))
theorem in_pairsN {t p : Addr} {c : Nat} {items : List Value} {ps : List (Str × Str)} {u v : Str} {Q : Value → Shared → Prop} (N : News h₀ L s.heap news) (ht : (t, tupOf items.toArray c) ∈ news) (hi : PairsAt s.heap items ps) (rp : Reads s.heap (.ref p) (.tuple [.str u, .str v]) []) (hu : A.in1.units + 64 < cLine)
    (k3 : PyData.strOk u = true) (k4 : PyData.strOk v = true) (hok : pairsOk ps = true) {b : Bool} (e : (ps.any fun q => q.1 == u && q.2 == v) = b) (h : Q (.bool b) s) : wpAny (model prog w) A (compareOp .In (.ref p) (.ref t)) Q E s :=
  in_pairs ⟨_, (N _ ht).1, rfl, _, rfl⟩ (by simpa using hi) rp hu k3 k4 hok (by rw [e]; exact h)
theorem in_pairsT {t p : Addr} {c : Nat} {items : List Value} {ps : List (Str × Str)} {u v : Str} {Q : Value → Shared → Prop} (N : News h₀ L s.heap news) (ht : (t, tupOf items.toArray c) ∈ news) (hi : PairsAt s.heap items ps) (rp : Reads s.heap (.ref p) (.tuple [.str u, .str v]) []) (hu : A.in1.units + 64 < cLine)
    (k3 : PyData.strOk u = true) (k4 : PyData.strOk v = true) (hok : pairsOk ps = true) (e : (ps.any fun q => q.1 == u && q.2 == v) = true) (h : Q (.bool true) s) : wpAny (model prog w) A (compareOp .In (.ref p) (.ref t)) Q E s := in_pairsN N ht hi rp hu k3 k4 hok e h
theorem in_pairsF {t p : Addr} {c : Nat} {items : List Value} {ps : List (Str × Str)} {u v : Str} {Q : Value → Shared → Prop} (N : News h₀ L s.heap news) (ht : (t, tupOf items.toArray c) ∈ news) (hi : PairsAt s.heap items ps) (rp : Reads s.heap (.ref p) (.tuple [.str u, .str v]) []) (hu : A.in1.units + 64 < cLine)
    (k3 : PyData.strOk u = true) (k4 : PyData.strOk v = true) (hok : pairsOk ps = true) (e : (ps.any fun q => q.1 == u && q.2 == v) = false) (h : Q (.bool false) s) : wpAny (model prog w) A (compareOp .In (.ref p) (.ref t)) Q E s := in_pairsN N ht hi rp hu k3 k4 hok e h
end
end
-- NtIs
section
open PySem PySem.W PySem.Spec PySem.Calls PyProof.Rows PySem.SeqAt
theorem c_is_rgb_ycc (w : World) (news : Led) (t1 t2 : Tok) :
   Con w 239 [.str (Str.ofString "rgb") t1, .str (Str.ofString "ycc") t2] news 20 (fun h₀ L m Q => ∀ (h' : Heap) (tk' : Nat), Fr h₀ L h' m → News h₀ L h' news → Q (.bool true) h' tk') := by
  w_top off
  k_with_none
  k_with "k_room" => skip
  k_with "units_room" => skip
  k_with "k_all" => ((repeat ((refine' List.forall_mem_cons.mpr ⟨?ha, ?_⟩); (case ha => k_ne))); (first | exact List.forall_mem_nil _ | assumption | exact off1_all (by assumption) | exact allLt_ne (by assumption) (by (try dsimp only); omega) | ((with_reducible rename _ ∧ AllLt _ _ => hx9); exact allLt_ne hx9.2 (by (try dsimp only); omega)) | ((with_reducible rename _ ∧ _ ∧ AllLt _ _ => hx9); exact allLt_ne hx9.2.2 (by (try dsimp only); omega)) | ((with_reducible rename _ ∧ _ ∧ _ ∧ AllLt _ _ => hx9); exact allLt_ne hx9.2.2.2 (by (try dsimp only); omega))))
  k_with "lcg_sub" => first | with_reducible assumption | ((with_reducible (repeat' (first | exact List.mem_cons_self | assumption | refine List.mem_cons_of_mem _ ?_))); done)
  k_with "k_mem" => first | with_reducible assumption | ((with_reducible (repeat' (first | exact List.mem_cons_self | assumption | refine List.mem_cons_of_mem _ ?_))); done)
  k_with "lcg_off" => first | exact True.intro | assumption | (refine And.intro (by first | assumption | exact ⟨by k_ne, by k_ne, by k_ne⟩) ?_; lcg_off)
  k_with "k_lt" => skip
  k_with "k_ne" => (refine neN ?_; (try dsimp only); first | with_reducible assumption | exact Ne.symm (by with_reducible assumption) | exact o_gt (by with_reducible assumption) (by lcg_sub) | exact o_1' (by with_reducible assumption) (by lcg_sub) | exact o_lt (by with_reducible assumption) (by lcg_sub) | exact o_1 (by with_reducible assumption) (by lcg_sub) | exact o_3I (by with_reducible assumption) (by lcg_sub) | exact Ne.symm (o_3I (by with_reducible assumption) (by lcg_sub)) | exact o_3C (by with_reducible assumption) (by lcg_sub) | exact Ne.symm (o_3C (by with_reducible assumption) (by lcg_sub)) | exact o_3D (by with_reducible assumption) (by lcg_sub) | exact Ne.symm (o_3D (by with_reducible assumption) (by lcg_sub)) | exact o_4I (by with_reducible assumption) (by lcg_sub) | exact Ne.symm (o_4I (by with_reducible assumption) (by lcg_sub)) | exact o_4C (by with_reducible assumption) (by lcg_sub) | exact Ne.symm (o_4C (by with_reducible assumption) (by lcg_sub)) | exact o_4X (by with_reducible assumption) (by lcg_sub) | exact Ne.symm (o_4X (by with_reducible assumption) (by lcg_sub)) | exact o_4D (by with_reducible assumption) (by lcg_sub) | exact Ne.symm (o_4D (by with_reducible assumption) (by lcg_sub)) | ((repeat (first | exact cn1 | exact cn2 | exact cn3 | exact cn4 | exact cn5 | exact cn6 | exact cn7 | exact Ne.symm cn1 | exact Ne.symm cn2 | exact Ne.symm cn3 | exact Ne.symm cn4 | exact Ne.symm cn5 | exact Ne.symm cn6 | exact Ne.symm cn7 | refine cnS ?_)); done))
  k_with "k_all" => ((repeat ((refine' List.forall_mem_cons.mpr ⟨?ha, ?_⟩); (case ha => k_ne))); (first | exact List.forall_mem_nil _ | with_reducible assumption | exact all_lt (by with_reducible assumption) (by (repeat' (first | with_reducible assumption | exact Sub.refl | refine Sub.cons ?_))) | exact all_1 (by with_reducible assumption) (by (repeat' (first | with_reducible assumption | exact Sub.refl | refine Sub.cons ?_))) | exact all_3I (by with_reducible assumption) (by (repeat' (first | with_reducible assumption | exact Sub.refl | refine Sub.cons ?_))) | exact all_3C (by with_reducible assumption) (by (repeat' (first | with_reducible assumption | exact Sub.refl | refine Sub.cons ?_))) | exact all_3D (by with_reducible assumption) (by (repeat' (first | with_reducible assumption | exact Sub.refl | refine Sub.cons ?_))) | exact all_4I (by with_reducible assumption) (by (repeat' (first | with_reducible assumption | exact Sub.refl | refine Sub.cons ?_))) | exact all_4C (by with_reducible assumption) (by (repeat' (first | with_reducible assumption | exact Sub.refl | refine Sub.cons ?_))) | exact all_4X (by with_reducible assumption) (by (repeat' (first | with_reducible assumption | exact Sub.refl | refine Sub.cons ?_))) | exact all_4D (by with_reducible assumption) (by (repeat' (first | with_reducible assumption | exact Sub.refl | refine Sub.cons ?_))) | exact allLt_ne (by with_reducible assumption) (by repeat (first | exact Nat.le_refl _ | refine Nat.le_succ_of_le ?_))))
  k_with "k_enter" => skip
  k_with "FinE" => ((unfold LCg.FinE); intro D' h' tk' F' N' o1'; (try simp only [List.nil_append, List.cons_append] at N'); (try dsimp only))
  k_with "FinA" => ((unfold LCg.FinA); intro D' h' tk' F' N' o1'; (try simp only [List.nil_append, List.cons_append] at N'); (try dsimp only))
  k_with "CompEnd" => (refine' nt_compEnd ?F ?N ?P1 ?P2 ?P3 ?off ?S ?_; (case F => assumption); (case N => assumption); (case P1 => repeat' (first | exact Pick.head | refine' Pick.tail ?_)); (case P2 => repeat' (first | exact Pick.head | refine' Pick.tail ?_)); (case P3 => repeat' (first | exact Pick.head | refine' Pick.tail ?_)); (case off => lcg_off); (case S => first | lcg_src | assumption))
  k_with "eval ListComp" => (k_here; (with_reducible show wpAny _ _ (eval (PySem.Expr.ListComp _ [⟨PySem.Expr.Name _ _, _, [], _⟩] _ _) _) _ _ _); (try k_fold); k_dflt (refine LCg.ListComp_U (F₀ := by k_asm) (by with_unfolding_all rfl) (by decide) (by rfl) (by decide) (by rfl) ?_))
  k_with "exec Assign cons ListComp" => (k_here; k_dflt (refine LCg.Assign_ListComp_U (F₀ := by k_asm) (by rfl) (by with_unfolding_all rfl) (by with_unfolding_all rfl) (by decide) (by rfl) (by decide) (by rfl) (by rfl) (by rfl) ?_))
  k_with "eval ListComp" => (k_here; (with_reducible show wpAny _ _ (eval (PySem.Expr.ListComp _ [⟨PySem.Expr.Name _ _, _, [_], _⟩] _ _) _) _ _ _); (try k_fold); k_dflt (refine LCt.ListComp_T (F₀ := by k_asm) (by with_unfolding_all rfl) (by decide) (by rfl) (by decide) (by rfl) ?_))
  k_with "CompSrcT" => (k_here; k_dflt (first | (refine LCt.CompSrcT.ledger (by rfl) (by k_asm) (by k_asm) (by lcg_sub) (by first | exact Nat.le_of_ble_eq_true rfl | size_fits) ?_; intro g'; lct_lit) | (refine LCt.CompSrcT.range (by rfl) (by k_asm) (by k_asm) (by assumption) (by first | decide | rfl) (by first | rfl | decide) (by first | exact Nat.le_of_ble_eq_true rfl | size_fits) ?_; intro g'; lct_lit)))
  k_with "CompRestT" => (with_unfolding_all first | (refine LCt.CompRestT.succ ?_; intro v' I' oI' C' oC' D' m' h' tk' E' hv' hC' hx' F' N' off' ne'; (first | lcg_open hv' | (obtain ⟨t9', hv9'⟩ := hv'; subst hv9')); (obtain ⟨ne1', ne2', ne3'⟩ := ne')) | refine LCt.CompRestT.zero ?_)
  k_with "CompSrc" => (k_here; k_dflt (first | (refine LCg.CompSrc.ledger (by rfl) (by k_asm) (by k_asm) (by lcg_sub) (by first | exact Nat.le_of_ble_eq_true rfl | size_fits) ?_; intro g'; lcg_lit) | (refine LCg.CompSrc.range (by rfl) (by k_asm) (by k_asm) (by assumption) (by first | decide | rfl) (by first | rfl | decide) (by first | exact Nat.le_of_ble_eq_true rfl | size_fits) ?_; intro g'; lcg_lit)))
  k_with "CompRest" => (with_unfolding_all first | (refine LCg.CompRest.succ ?_; intro v' I' oI' C' oC' D' m' h' tk' E' hv' hC' hx' F' N' off' ne'; (first | lcg_open hv' | (obtain ⟨t9', hv9'⟩ := hv'; subst hv9')); (obtain ⟨ne1', ne2', ne3'⟩ := ne')) | refine LCg.CompRest.zero ?_)
  k_with "execs cons" => ((with_reducible refine gen_toks (fun tk => ?_)); (with_reducible refine wpAny_execs_cons ?_); (try dsimp only); (try k_fold))
  k_with "subscriptTail" => (k_here; (with_reducible show wpAny _ _ (subscriptTail _ _ (Value.ref _) (Value.int _ _)) _ _ _); k_dflt (first | (refine' nt_item ?N ?hm ?k2 ?k3 ?k4 ?_ ?k6; (case N => k_asm); (case hm => lcg_sub); (case k2 => decide); (case k3 => decide); (case k4 => exact rfl); (case k6 => with_unfolding_all rfl); k_whole) | (refine' nt_itemK ?X ?F ?hl ?k2 ?k3 ?k4 ?_ ?k6 ?k7; (case F => k_asm); (case X => k_asm); (case hl => k_is); (case k2 => decide); (case k3 => decide); (case k4 => exact rfl); (case k6 => with_unfolding_all rfl); (case k7 => intro _; with_unfolding_all rfl); k_whole) | (refine' nt_itemT ?N ?hm ?k2 ?k3 ?k4 ?_ ?k6 ?k7; (case N => k_asm); (case hm => lcg_sub); (case k2 => decide); (case k3 => decide); (case k4 => exact rfl); (case k6 => with_unfolding_all rfl); (case k7 => intro _; with_unfolding_all rfl); k_whole)))
  k_with "subscriptTail Name Constant ref int" => (k_here; (with_reducible show wpAny _ _ (subscriptTail _ _ (Value.ref _) (Value.int _ _)) _ _ _); k_dflt (first | (refine' nt_item ?N ?hm ?k2 ?k3 ?k4 ?_ ?k6; (case N => k_asm); (case hm => lcg_sub); (case k2 => decide); (case k3 => decide); (case k4 => exact rfl); (case k6 => with_unfolding_all rfl); k_whole) | (refine' nt_itemK ?X ?F ?hl ?k2 ?k3 ?k4 ?_ ?k6 ?k7; (case F => k_asm); (case X => k_asm); (case hl => k_is); (case k2 => decide); (case k3 => decide); (case k4 => exact rfl); (case k6 => with_unfolding_all rfl); (case k7 => intro _; with_unfolding_all rfl); k_whole) | (refine' nt_itemT ?N ?hm ?k2 ?k3 ?k4 ?_ ?k6 ?k7; (case N => k_asm); (case hm => lcg_sub); (case k2 => decide); (case k3 => decide); (case k4 => exact rfl); (case k6 => with_unfolding_all rfl); (case k7 => intro _; with_unfolding_all rfl); k_whole)))
  k_with "subscriptTail Name Name ref int" => (k_here; (with_reducible show wpAny _ _ (subscriptTail _ _ (Value.ref _) (Value.int _ _)) _ _ _); k_dflt (first | (refine' nt_item ?N ?hm ?k2 ?k3 ?k4 ?_ ?k6; (case N => k_asm); (case hm => lcg_sub); (case k2 => decide); (case k3 => decide); (case k4 => exact rfl); (case k6 => with_unfolding_all rfl); k_whole) | (refine' nt_itemK ?X ?F ?hl ?k2 ?k3 ?k4 ?_ ?k6 ?k7; (case F => k_asm); (case X => k_asm); (case hl => k_is); (case k2 => decide); (case k3 => decide); (case k4 => exact rfl); (case k6 => with_unfolding_all rfl); (case k7 => intro _; with_unfolding_all rfl); k_whole) | (refine' nt_itemT ?N ?hm ?k2 ?k3 ?k4 ?_ ?k6 ?k7; (case N => k_asm); (case hm => lcg_sub); (case k2 => decide); (case k3 => decide); (case k4 => exact rfl); (case k6 => with_unfolding_all rfl); (case k7 => intro _; with_unfolding_all rfl); k_whole)))
  k_with "subscriptTail Attribute Name Constant ref int" => (k_here; (with_reducible show wpAny _ _ (subscriptTail _ _ (Value.ref _) (Value.int _ _)) _ _ _); k_dflt (first | (refine' nt_item ?N ?hm ?k2 ?k3 ?k4 ?_ ?k6; (case N => k_asm); (case hm => lcg_sub); (case k2 => decide); (case k3 => decide); (case k4 => exact rfl); (case k6 => with_unfolding_all rfl); k_whole) | (refine' nt_itemK ?X ?F ?hl ?k2 ?k3 ?k4 ?_ ?k6 ?k7; (case F => k_asm); (case X => k_asm); (case hl => k_is); (case k2 => decide); (case k3 => decide); (case k4 => exact rfl); (case k6 => with_unfolding_all rfl); (case k7 => intro _; with_unfolding_all rfl); k_whole) | (refine' nt_itemT ?N ?hm ?k2 ?k3 ?k4 ?_ ?k6 ?k7; (case N => k_asm); (case hm => lcg_sub); (case k2 => decide); (case k3 => decide); (case k4 => exact rfl); (case k6 => with_unfolding_all rfl); (case k7 => intro _; with_unfolding_all rfl); k_whole)))
  k_with "subscriptTail Attribute Name Name ref int" => (k_here; (with_reducible show wpAny _ _ (subscriptTail _ _ (Value.ref _) (Value.int _ _)) _ _ _); k_dflt (first | (refine' nt_item ?N ?hm ?k2 ?k3 ?k4 ?_ ?k6; (case N => k_asm); (case hm => lcg_sub); (case k2 => decide); (case k3 => decide); (case k4 => exact rfl); (case k6 => with_unfolding_all rfl); k_whole) | (refine' nt_itemK ?X ?F ?hl ?k2 ?k3 ?k4 ?_ ?k6 ?k7; (case F => k_asm); (case X => k_asm); (case hl => k_is); (case k2 => decide); (case k3 => decide); (case k4 => exact rfl); (case k6 => with_unfolding_all rfl); (case k7 => intro _; with_unfolding_all rfl); k_whole) | (refine' nt_itemT ?N ?hm ?k2 ?k3 ?k4 ?_ ?k6 ?k7; (case N => k_asm); (case hm => lcg_sub); (case k2 => decide); (case k3 => decide); (case k4 => exact rfl); (case k6 => with_unfolding_all rfl); (case k7 => intro _; with_unfolding_all rfl); k_whole)))
  k_with "subscriptTail Subscript Name ref int" => (k_here; (with_reducible show wpAny _ _ (subscriptTail _ _ (Value.ref _) (Value.int _ _)) _ _ _); k_dflt (first | (refine' nt_item ?N ?hm ?k2 ?k3 ?k4 ?_ ?k6; (case N => k_asm); (case hm => lcg_sub); (case k2 => decide); (case k3 => decide); (case k4 => exact rfl); (case k6 => with_unfolding_all rfl); k_whole) | (refine' nt_itemK ?X ?F ?hl ?k2 ?k3 ?k4 ?_ ?k6 ?k7; (case F => k_asm); (case X => k_asm); (case hl => k_is); (case k2 => decide); (case k3 => decide); (case k4 => exact rfl); (case k6 => with_unfolding_all rfl); (case k7 => intro _; with_unfolding_all rfl); k_whole) | (refine' nt_itemT ?N ?hm ?k2 ?k3 ?k4 ?_ ?k6 ?k7; (case N => k_asm); (case hm => lcg_sub); (case k2 => decide); (case k3 => decide); (case k4 => exact rfl); (case k6 => with_unfolding_all rfl); (case k7 => intro _; with_unfolding_all rfl); k_whole)))
  k_with "subscriptTail Subscript Constant ref int" => (k_here; (with_reducible show wpAny _ _ (subscriptTail _ _ (Value.ref _) (Value.int _ _)) _ _ _); k_dflt (first | (refine' nt_item ?N ?hm ?k2 ?k3 ?k4 ?_ ?k6; (case N => k_asm); (case hm => lcg_sub); (case k2 => decide); (case k3 => decide); (case k4 => exact rfl); (case k6 => with_unfolding_all rfl); k_whole) | (refine' nt_itemK ?X ?F ?hl ?k2 ?k3 ?k4 ?_ ?k6 ?k7; (case F => k_asm); (case X => k_asm); (case hl => k_is); (case k2 => decide); (case k3 => decide); (case k4 => exact rfl); (case k6 => with_unfolding_all rfl); (case k7 => intro _; with_unfolding_all rfl); k_whole) | (refine' nt_itemT ?N ?hm ?k2 ?k3 ?k4 ?_ ?k6 ?k7; (case N => k_asm); (case hm => lcg_sub); (case k2 => decide); (case k3 => decide); (case k4 => exact rfl); (case k6 => with_unfolding_all rfl); (case k7 => intro _; with_unfolding_all rfl); k_whole)))
  k_with "setItem ref int" => (k_here; k_dflt (refine' ki_set ?F ?N ?k2 ?k3 ?k4 ?U ?_; (case F => k_asm); (case N => k_asm); (case U => k_upd); (case k2 => decide); (case k3 => decide); (case k4 => exact rfl); k_whole); intro h' F' N'; (try k_sweep))
  k_with "eval Name" => (k_here; (with_reducible show wpAny _ _ (eval (Expr.Name _ _) (envOf _ _ _ _ _)) _ _ _); (with_reducible rename Fr _ _ _ _ => kF); k_dflt (first | (name_kind "local"; (refine' ld kF ?k2 ?_ ?a ?b ?c; (case k2 => exact rfl); (case a => kernel_rfl!); (case b => kernel_rfl!); (case c => decide +kernel)); k_whole) | (name_kind "globalImplicit"; (refine' name_K kF ?k1 ?k2 ?k3 ?_ ?a ?b ?c; (case k1 => k_asm); (case k2 => k_asm); (case k3 => k_is); (case a => kernel_rfl!); (case b => kernel_rfl!); (case c => decide +kernel); k_whole)) | (refine' name_B kF ?k1 ?k2 ?k3 ?k4 ?k5 ?_; (case k1 => k_asm); (case k2 => k_asm); (case k3 => k_is); (case k4 => boot_by_name); (case k5 => decide); k_whole)))
  k_with "compareOp NotEq ref ref" => (k_here; k_dflt (first | (with_reducible refine' ne_t3 ?N ?ha ?hb ?e1 ?e2 ?e3 ?hu ?_; (case N => k_asm); (case ha => lcg_sub); (case hb => lcg_sub); (case e1 => first | assumption | exact (Grey.h (by assumption) (by assumption) (by assumption)).1 | exact (Grey2.h (by assumption) (by assumption) (by assumption)).1 | rfl); (case e2 => first | assumption | exact (Grey.h (by assumption) (by assumption) (by assumption)).2.1 | exact (Grey2.h (by assumption) (by assumption) (by assumption)).2.1 | rfl); (case e3 => first | assumption | exact (Grey.h (by assumption) (by assumption) (by assumption)).2.2 | exact (Grey2.h (by assumption) (by assumption) (by assumption)).2.2 | rfl); (case hu => units_room)) | (with_reducible refine' ne_l3 ?N ?ha ?hb ?e1 ?e2 ?e3 ?hu ?_; (case N => k_asm); (case ha => lcg_sub); (case hb => lcg_sub); (case e1 => first | assumption | exact (Grey.h (by assumption) (by assumption) (by assumption)).1 | exact (Grey2.h (by assumption) (by assumption) (by assumption)).1 | rfl); (case e2 => first | assumption | exact (Grey.h (by assumption) (by assumption) (by assumption)).2.1 | exact (Grey2.h (by assumption) (by assumption) (by assumption)).2.1 | rfl); (case e3 => first | assumption | exact (Grey.h (by assumption) (by assumption) (by assumption)).2.2 | exact (Grey2.h (by assumption) (by assumption) (by assumption)).2.2 | rfl); (case hu => units_room)) | (with_reducible refine' ne_l0 ?N ?ha ?hb ?hu ?_; (case N => k_asm); (case ha => lcg_sub); (case hb => lcg_sub); (case hu => units_room))))
  k_with "compareOp Eq ref ref" => (k_here; k_dflt ((with_reducible refine' eq_l0 ?N ?ha ?hb ?hu ?_; (case N => k_asm); (case ha => lcg_sub); (case hb => lcg_sub); (case hu => units_room))))
  k_with "eval Call" => ((with_reducible show wpAny _ _ (eval (Expr.Call (Expr.Name _ _) _ [] _) (envOf _ _ _ _ _)) _ _ _); k_dflt (refine Call_ ?_))
  k_with "compareOp In ref ref" => (k_here; k_dflt (first | (refine' in_pairsT ?N ?ht ?hi ?rp ?hu ?k3 ?k4 ?hok ?e ?_; (case N => k_asm); (case ht => lcg_sub); (case hi => repeat' (first | exact PairsAt.nil | (refine' PairsAt.cons (rd2 ?N1 ?m1) ?_; (case N1 => k_asm); (case m1 => lcg_sub)))); (case rp => (refine' rd2 ?N1 ?m1; (case N1 => k_asm); (case m1 => lcg_sub))); (case hu => units_room); (case k3 => decide +kernel); (case k4 => decide +kernel); (case hok => decide +kernel); (case e => decide +kernel)) | (refine' in_pairsF ?N ?ht ?hi ?rp ?hu ?k3 ?k4 ?hok ?e ?_; (case N => k_asm); (case ht => lcg_sub); (case hi => repeat' (first | exact PairsAt.nil | (refine' PairsAt.cons (rd2 ?N1 ?m1) ?_; (case N1 => k_asm); (case m1 => lcg_sub)))); (case rp => (refine' rd2 ?N1 ?m1; (case N1 => k_asm); (case m1 => lcg_sub))); (case hu => units_room); (case k3 => decide +kernel); (case k4 => decide +kernel); (case hok => decide +kernel); (case e => decide +kernel))))
  unfold Con
  k_fill
  intro mean mg mb dp un gd cn cs aa ccd cl outer A₀ base h₀ L m s Q E B F X N T hk hd hu hret
  refine wpAny_call ?_
  k_dflt k_enter
  k_steps
  all_goals (rename Fr h₀ L _ _ => hF; rename News h₀ L _ _ => hN)
  exact hret _ _ hF (nt_sub hN (by repeat (first | exact Sub.refl | refine Sub.cons ?_)))
theorem c_is_ycc_rgb (w : World) (news : Led) (t1 t2 : Tok) :
   Con w 239 [.str (Str.ofString "ycc") t1, .str (Str.ofString "rgb") t2] news 20 (fun h₀ L m Q => ∀ (h' : Heap) (tk' : Nat), Fr h₀ L h' m → News h₀ L h' news → Q (.bool true) h' tk') := by
  unfold Con
  k_fill
  intro mean mg mb dp un gd cn cs aa ccd cl outer A₀ base h₀ L m s Q E B F X N T hk hd hu hret
  refine wpAny_call ?_
  k_dflt k_enter
  k_steps
  all_goals (rename Fr h₀ L _ _ => hF; rename News h₀ L _ _ => hN)
  exact hret _ _ hF (nt_sub hN (by repeat (first | exact Sub.refl | refine Sub.cons ?_)))
theorem c_is_cmyk_ycck (w : World) (news : Led) (t1 t2 : Tok) :
   Con w 239 [.str (Str.ofString "cmyk") t1, .str (Str.ofString "ycck") t2] news 20 (fun h₀ L m Q => ∀ (h' : Heap) (tk' : Nat), Fr h₀ L h' m → News h₀ L h' news → Q (.bool true) h' tk') := by
  unfold Con
  k_fill
  intro mean mg mb dp un gd cn cs aa ccd cl outer A₀ base h₀ L m s Q E B F X N T hk hd hu hret
  refine wpAny_call ?_
  k_dflt k_enter
  k_steps
  all_goals (rename Fr h₀ L _ _ => hF; rename News h₀ L _ _ => hN)
  exact hret _ _ hF (nt_sub hN (by repeat (first | exact Sub.refl | refine Sub.cons ?_)))
theorem c_is_ycck_cmyk (w : World) (news : Led) (t1 t2 : Tok) :
   Con w 239 [.str (Str.ofString "ycck") t1, .str (Str.ofString "cmyk") t2] news 20 (fun h₀ L m Q => ∀ (h' : Heap) (tk' : Nat), Fr h₀ L h' m → News h₀ L h' news → Q (.bool true) h' tk') := by
  unfold Con
  k_fill
  intro mean mg mb dp un gd cn cs aa ccd cl outer A₀ base h₀ L m s Q E B F X N T hk hd hu hret
  refine wpAny_call ?_
  k_dflt k_enter
  k_steps
  all_goals (rename Fr h₀ L _ _ => hF; rename News h₀ L _ _ => hN)
  exact hret _ _ hF (nt_sub hN (by repeat (first | exact Sub.refl | refine Sub.cons ?_)))
theorem c_is_rgb_grey (w : World) (news : Led) (t1 t2 : Tok) :
   Con w 239 [.str (Str.ofString "rgb") t1, .str (Str.ofString "grey") t2] news 20 (fun h₀ L m Q => ∀ (h' : Heap) (tk' : Nat), Fr h₀ L h' m → News h₀ L h' news → Q (.bool true) h' tk') := by
  unfold Con
  k_fill
  intro mean mg mb dp un gd cn cs aa ccd cl outer A₀ base h₀ L m s Q E B F X N T hk hd hu hret
  refine wpAny_call ?_
  k_dflt k_enter
  k_steps
  all_goals (rename Fr h₀ L _ _ => hF; rename News h₀ L _ _ => hN)
  exact hret _ _ hF (nt_sub hN (by repeat (first | exact Sub.refl | refine Sub.cons ?_)))
theorem c_is_rgb_ycck (w : World) (news : Led) (t1 t2 : Tok) :
   Con w 239 [.str (Str.ofString "rgb") t1, .str (Str.ofString "ycck") t2] news 20 (fun h₀ L m Q => ∀ (h' : Heap) (tk' : Nat), Fr h₀ L h' m → News h₀ L h' news → Q (.bool false) h' tk') := by
  unfold Con
  k_fill
  intro mean mg mb dp un gd cn cs aa ccd cl outer A₀ base h₀ L m s Q E B F X N T hk hd hu hret
  refine wpAny_call ?_
  k_dflt k_enter
  k_steps
  all_goals (rename Fr h₀ L _ _ => hF; rename News h₀ L _ _ => hN)
  exact hret _ _ hF (nt_sub hN (by repeat (first | exact Sub.refl | refine Sub.cons ?_)))
theorem c_is_grey_ycck (w : World) (news : Led) (t1 t2 : Tok) :
   Con w 239 [.str (Str.ofString "grey") t1, .str (Str.ofString "ycck") t2] news 20 (fun h₀ L m Q => ∀ (h' : Heap) (tk' : Nat), Fr h₀ L h' m → News h₀ L h' news → Q (.bool false) h' tk') := by
  unfold Con
  k_fill
  intro mean mg mb dp un gd cn cs aa ccd cl outer A₀ base h₀ L m s Q E B F X N T hk hd hu hret
  refine wpAny_call ?_
  k_dflt k_enter
  k_steps
  all_goals (rename Fr h₀ L _ _ => hF; rename News h₀ L _ _ => hN)
  exact hret _ _ hF (nt_sub hN (by repeat (first | exact Sub.refl | refine Sub.cons ?_)))
theorem c_is_cmyk_ycc (w : World) (news : Led) (t1 t2 : Tok) :
   Con w 239 [.str (Str.ofString "cmyk") t1, .str (Str.ofString "ycc") t2] news 20 (fun h₀ L m Q => ∀ (h' : Heap) (tk' : Nat), Fr h₀ L h' m → News h₀ L h' news → Q (.bool false) h' tk') := by
  unfold Con
  k_fill
  intro mean mg mb dp un gd cn cs aa ccd cl outer A₀ base h₀ L m s Q E B F X N T hk hd hu hret
  refine wpAny_call ?_
  k_dflt k_enter
  k_steps
  all_goals (rename Fr h₀ L _ _ => hF; rename News h₀ L _ _ => hN)
  exact hret _ _ hF (nt_sub hN (by repeat (first | exact Sub.refl | refine Sub.cons ?_)))
end
-- NtPic
section
open PySem PySem.W PySem.Spec PySem.Calls PyProof.Rows PySem.SeqAt
theorem Con.mono {w : World} {f : Addr} {vs : List Value} {news : Led} {dN : Nat} {R1 R2 : Heap → Addr → (Str → Option Value) → (Value → Heap → Nat → Prop) → Prop} (C : Con w f vs news dN R1) (h : ∀ h₀ L m Q, R2 h₀ L m Q → R1 h₀ L m Q) : Con w f vs news dN R2 :=
  fun mean mg mb dp un gd cn cs a ccd cl outer A₀ base h₀ L m s Q E B F X N T hk hd hu r => C mean mg mb dp un gd cn cs a ccd cl outer A₀ base h₀ L m s Q E B F X N T hk hd hu (h _ _ _ _ r)
def In0 (p x : Int) : Prop := 0 ≤ x ∧ x ≤ 2 * mid p - 1
def Ok3 (p r g b : Int) : Prop := In0 p r ∧ In0 p g ∧ In0 p b
def Ok4 (p r g b _k : Int) : Prop := In0 p r ∧ In0 p g ∧ In0 p b
def Rycc (p r g b y cb cr : Int) : Prop := y = fY r g b ∧ cb = fCb (mid p) r g b ∧ cr = fCr (mid p) r g b
def Rrgb (p y cb cr r g b : Int) : Prop := r = fR (mid p) y cb cr ∧ g = fG (mid p) y cb cr ∧ b = fB (mid p) y cb cr
def Rycck (p r g b k y cb cr ko : Int) : Prop := Rycc p (2 * mid p - 1 - r) (2 * mid p - 1 - g) (2 * mid p - 1 - b) y cb cr ∧ ko = k
def Rcmyk (p y cb cr k r g b ko : Int) : Prop := Rrgb p y cb cr (2 * mid p - 1 - r) (2 * mid p - 1 - g) (2 * mid p - 1 - b) ∧ ko = k
def Rgrey (r g b y : Int) : Prop := y = fY r g b
theorem In0.hi {p x : Int} (hp : 2 ≤ p ∧ p ≤ 8) (h : In0 p x) : 0 ≤ x ∧ x ≤ 255 := by have := mid_gt hp; have h1 := h.1; have h2 := h.2; exact ⟨h1, by omega⟩
theorem s_ycc {w : World} {news : Led} {tu dx : Addr} {a : Str} {p : Int} {ta tb tp k1 k2 k3 : Tok} (hp : 2 ≤ p ∧ p ≤ 8) (h1 : (tu, instObj 228 dx) ∈ news) (h2 : (dx, turnD w a (Str.ofString "ycc") p ta tb tp k1 k2 k3) ∈ news) : Samp33 w news tu (Ok3 p) (Rycc p) :=
  fun news' l r g b t1 t2 t3 c s hm ok => (c_samp_ycc w news' tu dx l a r g b p t1 t2 t3 ta tb tp k1 k2 k3 c (s _ h1) (s _ h2) hm hp ok.1 ok.2.1 ok.2.2).mono fun _ _ _ _ r D y cb cr ty tb tr c h' tk' e1 e2 e3 F N l => r D y cb cr ty tb tr c h' tk' ⟨e1, e2, e3⟩ F N l
theorem s_rgb {w : World} {news : Led} {tu dx : Addr} {p : Int} {ta tb tp k1 k2 k3 : Tok} (hp : 2 ≤ p ∧ p ≤ 8) (h1 : (tu, instObj 228 dx) ∈ news) (h2 : (dx, turnD w (Str.ofString "ycc") (Str.ofString "rgb") p ta tb tp k1 k2 k3) ∈ news) : Samp33 w news tu (Ok3 p) (Rrgb p) :=
  fun news' l r g b t1 t2 t3 c s hm ok => (c_samp_rgb w news' tu dx l r g b p t1 t2 t3 ta tb tp k1 k2 k3 c (s _ h1) (s _ h2) hm hp (ok.1.hi hp) (ok.2.1.hi hp) (ok.2.2.hi hp)).mono fun _ _ _ _ r D y cb cr ty tb tr c h' tk' e1 e2 e3 F N l => r D y cb cr ty tb tr c h' tk' ⟨e1, e2, e3⟩ F N l
end
-- NtPic2
section
open PySem PySem.W PySem.Spec PySem.Calls PyProof.Rows PySem.SeqAt
/-- a picture, laid out in the ledger -/
def PicIn (w : World) (news : Led) (X : Addr) (a : Str) (p : Int) (pl : Addr) : Prop := ∃ (dx : Addr) (ta tp k1 k2 k3 : Tok), (X, instObj 122 dx) ∈ news ∧ (dx, picD w a p pl ta tp k1 k2 k3) ∈ news
theorem PicIn.sub {w : World} {a b : Led} {X : Addr} {s : Str} {p : Int} {pl : Addr} (h : Sub a b) (x : PicIn w a X s p pl) : PicIn w b X s p pl := by
  obtain ⟨dx, ta, tp, k1, k2, k3, m1, m2⟩ := x
  exact ⟨dx, ta, tp, k1, k2, k3, h _ m1, h _ m2⟩
end
-- NtPic_G
section
open PySem PySem.W PySem.Spec PySem.Calls PyProof.Rows PySem.SeqAt
theorem c_tpic_grey_grey (w : World) (news : Led) (X pl P0 : Addr) (p : Int) (c : Nat) (t : Tok) (a0 a1 a2 a3 : Int) (hX : PicIn w news X (Str.ofString "grey") p pl) (hpl : (pl, listOf #[.ref P0] c) ∈ news) (hP0 : PlaneIn w news P0 a0 a1 a2 a3) :
   Con w 254 [.ref X, .str (Str.ofString "grey") t] news 40 (fun h₀ L m Q => ∀ (Y ql Q0 : Addr) (c : Nat) (T : Led) (h' : Heap) (tk' : Nat),
     PicIn w T Y (Str.ofString "grey") p ql → (ql, listOf #[.ref Q0] c) ∈ T → PlaneIn w T Q0 a0 a1 a2 a3 → Sub news T → Fr h₀ L h' m → News h₀ L h' T → Q (.ref Y) h' tk') := by
  w_top off
  k_with_none
  k_with "k_room" => skip
  k_with "units_room" => skip
  k_with "k_all" => ((repeat ((refine' List.forall_mem_cons.mpr ⟨?ha, ?_⟩); (case ha => k_ne))); (first | exact List.forall_mem_nil _ | assumption | exact off1_all (by assumption) | exact allLt_ne (by assumption) (by (try dsimp only); omega) | ((with_reducible rename _ ∧ AllLt _ _ => hx9); exact allLt_ne hx9.2 (by (try dsimp only); omega)) | ((with_reducible rename _ ∧ _ ∧ AllLt _ _ => hx9); exact allLt_ne hx9.2.2 (by (try dsimp only); omega)) | ((with_reducible rename _ ∧ _ ∧ _ ∧ AllLt _ _ => hx9); exact allLt_ne hx9.2.2.2 (by (try dsimp only); omega))))
  k_with "lcg_sub" => first | with_reducible assumption | ((with_reducible (repeat' (first | exact List.mem_cons_self | assumption | refine List.mem_cons_of_mem _ ?_))); done)
  k_with "k_mem" => first | with_reducible assumption | ((with_reducible (repeat' (first | exact List.mem_cons_self | assumption | refine List.mem_cons_of_mem _ ?_))); done)
  k_with "lcg_off" => first | exact True.intro | assumption | (refine And.intro (by first | assumption | exact ⟨by k_ne, by k_ne, by k_ne⟩) ?_; lcg_off)
  k_with "k_lt" => skip
  k_with "k_ne" => (refine neN ?_; (try dsimp only); first | with_reducible assumption | exact Ne.symm (by with_reducible assumption) | exact o_gt (by with_reducible assumption) (by lcg_sub) | exact o_1' (by with_reducible assumption) (by lcg_sub) | exact o_lt (by with_reducible assumption) (by lcg_sub) | exact o_1 (by with_reducible assumption) (by lcg_sub) | exact o_3I (by with_reducible assumption) (by lcg_sub) | exact Ne.symm (o_3I (by with_reducible assumption) (by lcg_sub)) | exact o_3C (by with_reducible assumption) (by lcg_sub) | exact Ne.symm (o_3C (by with_reducible assumption) (by lcg_sub)) | exact o_3D (by with_reducible assumption) (by lcg_sub) | exact Ne.symm (o_3D (by with_reducible assumption) (by lcg_sub)) | exact o_4I (by with_reducible assumption) (by lcg_sub) | exact Ne.symm (o_4I (by with_reducible assumption) (by lcg_sub)) | exact o_4C (by with_reducible assumption) (by lcg_sub) | exact Ne.symm (o_4C (by with_reducible assumption) (by lcg_sub)) | exact o_4X (by with_reducible assumption) (by lcg_sub) | exact Ne.symm (o_4X (by with_reducible assumption) (by lcg_sub)) | exact o_4D (by with_reducible assumption) (by lcg_sub) | exact Ne.symm (o_4D (by with_reducible assumption) (by lcg_sub)) | ((repeat (first | exact cn1 | exact cn2 | exact cn3 | exact cn4 | exact cn5 | exact cn6 | exact cn7 | exact Ne.symm cn1 | exact Ne.symm cn2 | exact Ne.symm cn3 | exact Ne.symm cn4 | exact Ne.symm cn5 | exact Ne.symm cn6 | exact Ne.symm cn7 | refine cnS ?_)); done))
  k_with "k_all" => ((repeat ((refine' List.forall_mem_cons.mpr ⟨?ha, ?_⟩); (case ha => k_ne))); (first | exact List.forall_mem_nil _ | with_reducible assumption | exact all_lt (by with_reducible assumption) (by (repeat' (first | with_reducible assumption | exact Sub.refl | refine Sub.cons ?_))) | exact all_1 (by with_reducible assumption) (by (repeat' (first | with_reducible assumption | exact Sub.refl | refine Sub.cons ?_))) | exact all_3I (by with_reducible assumption) (by (repeat' (first | with_reducible assumption | exact Sub.refl | refine Sub.cons ?_))) | exact all_3C (by with_reducible assumption) (by (repeat' (first | with_reducible assumption | exact Sub.refl | refine Sub.cons ?_))) | exact all_3D (by with_reducible assumption) (by (repeat' (first | with_reducible assumption | exact Sub.refl | refine Sub.cons ?_))) | exact all_4I (by with_reducible assumption) (by (repeat' (first | with_reducible assumption | exact Sub.refl | refine Sub.cons ?_))) | exact all_4C (by with_reducible assumption) (by (repeat' (first | with_reducible assumption | exact Sub.refl | refine Sub.cons ?_))) | exact all_4X (by with_reducible assumption) (by (repeat' (first | with_reducible assumption | exact Sub.refl | refine Sub.cons ?_))) | exact all_4D (by with_reducible assumption) (by (repeat' (first | with_reducible assumption | exact Sub.refl | refine Sub.cons ?_))) | exact allLt_ne (by with_reducible assumption) (by repeat (first | exact Nat.le_refl _ | refine Nat.le_succ_of_le ?_))))
  k_with "k_enter" => skip
  k_with "FinE" => ((unfold LCg.FinE); intro D' h' tk' F' N' o1'; (try simp only [List.nil_append, List.cons_append] at N'); (try dsimp only))
  k_with "FinA" => ((unfold LCg.FinA); intro D' h' tk' F' N' o1'; (try simp only [List.nil_append, List.cons_append] at N'); (try dsimp only))
  k_with "CompEnd" => (refine' nt_compEnd ?F ?N ?P1 ?P2 ?P3 ?off ?S ?_; (case F => assumption); (case N => assumption); (case P1 => repeat' (first | exact Pick.head | refine' Pick.tail ?_)); (case P2 => repeat' (first | exact Pick.head | refine' Pick.tail ?_)); (case P3 => repeat' (first | exact Pick.head | refine' Pick.tail ?_)); (case off => lcg_off); (case S => first | lcg_src | assumption))
  k_with "eval ListComp" => (k_here; (with_reducible show wpAny _ _ (eval (PySem.Expr.ListComp _ [⟨PySem.Expr.Name _ _, _, [], _⟩] _ _) _) _ _ _); (try k_fold); k_dflt (refine LCg.ListComp_U (F₀ := by k_asm) (by with_unfolding_all rfl) (by decide) (by rfl) (by decide) (by rfl) ?_))
  k_with "exec Assign cons ListComp" => (k_here; k_dflt (refine LCg.Assign_ListComp_U (F₀ := by k_asm) (by rfl) (by with_unfolding_all rfl) (by with_unfolding_all rfl) (by decide) (by rfl) (by decide) (by rfl) (by rfl) (by rfl) ?_))
  k_with "eval ListComp" => (k_here; (with_reducible show wpAny _ _ (eval (PySem.Expr.ListComp _ [⟨PySem.Expr.Name _ _, _, [_], _⟩] _ _) _) _ _ _); (try k_fold); k_dflt (refine LCt.ListComp_T (F₀ := by k_asm) (by with_unfolding_all rfl) (by decide) (by rfl) (by decide) (by rfl) ?_))
  k_with "CompSrcT" => (k_here; k_dflt (first | (refine LCt.CompSrcT.ledger (by rfl) (by k_asm) (by k_asm) (by lcg_sub) (by first | exact Nat.le_of_ble_eq_true rfl | size_fits) ?_; intro g'; lct_lit) | (refine LCt.CompSrcT.range (by rfl) (by k_asm) (by k_asm) (by assumption) (by first | decide | rfl) (by first | rfl | decide) (by first | exact Nat.le_of_ble_eq_true rfl | size_fits) ?_; intro g'; lct_lit)))
  k_with "CompRestT" => (with_unfolding_all first | (refine LCt.CompRestT.succ ?_; intro v' I' oI' C' oC' D' m' h' tk' E' hv' hC' hx' F' N' off' ne'; (first | lcg_open hv' | (obtain ⟨t9', hv9'⟩ := hv'; subst hv9')); (obtain ⟨ne1', ne2', ne3'⟩ := ne')) | refine LCt.CompRestT.zero ?_)
  k_with "CompSrc" => (k_here; k_dflt (first | (refine LCg.CompSrc.ledger (by rfl) (by k_asm) (by k_asm) (by lcg_sub) (by first | exact Nat.le_of_ble_eq_true rfl | size_fits) ?_; intro g'; lcg_lit) | (refine LCg.CompSrc.range (by rfl) (by k_asm) (by k_asm) (by assumption) (by first | decide | rfl) (by first | rfl | decide) (by first | exact Nat.le_of_ble_eq_true rfl | size_fits) ?_; intro g'; lcg_lit)))
  k_with "CompRest" => (with_unfolding_all first | (refine LCg.CompRest.succ ?_; intro v' I' oI' C' oC' D' m' h' tk' E' hv' hC' hx' F' N' off' ne'; (first | lcg_open hv' | (obtain ⟨t9', hv9'⟩ := hv'; subst hv9')); (obtain ⟨ne1', ne2', ne3'⟩ := ne')) | refine LCg.CompRest.zero ?_)
  k_with "execs cons" => ((with_reducible refine gen_toks (fun tk => ?_)); (with_reducible refine wpAny_execs_cons ?_); (try dsimp only); (try k_fold))
  k_with "subscriptTail" => (k_here; (with_reducible show wpAny _ _ (subscriptTail _ _ (Value.ref _) (Value.int _ _)) _ _ _); k_dflt (first | (refine' nt_item ?N ?hm ?k2 ?k3 ?k4 ?_ ?k6; (case N => k_asm); (case hm => lcg_sub); (case k2 => decide); (case k3 => decide); (case k4 => exact rfl); (case k6 => with_unfolding_all rfl); k_whole) | (refine' nt_itemK ?X ?F ?hl ?k2 ?k3 ?k4 ?_ ?k6 ?k7; (case F => k_asm); (case X => k_asm); (case hl => k_is); (case k2 => decide); (case k3 => decide); (case k4 => exact rfl); (case k6 => with_unfolding_all rfl); (case k7 => intro _; with_unfolding_all rfl); k_whole) | (refine' nt_itemT ?N ?hm ?k2 ?k3 ?k4 ?_ ?k6 ?k7; (case N => k_asm); (case hm => lcg_sub); (case k2 => decide); (case k3 => decide); (case k4 => exact rfl); (case k6 => with_unfolding_all rfl); (case k7 => intro _; with_unfolding_all rfl); k_whole)))
  k_with "subscriptTail Name Constant ref int" => (k_here; (with_reducible show wpAny _ _ (subscriptTail _ _ (Value.ref _) (Value.int _ _)) _ _ _); k_dflt (first | (refine' nt_item ?N ?hm ?k2 ?k3 ?k4 ?_ ?k6; (case N => k_asm); (case hm => lcg_sub); (case k2 => decide); (case k3 => decide); (case k4 => exact rfl); (case k6 => with_unfolding_all rfl); k_whole) | (refine' nt_itemK ?X ?F ?hl ?k2 ?k3 ?k4 ?_ ?k6 ?k7; (case F => k_asm); (case X => k_asm); (case hl => k_is); (case k2 => decide); (case k3 => decide); (case k4 => exact rfl); (case k6 => with_unfolding_all rfl); (case k7 => intro _; with_unfolding_all rfl); k_whole) | (refine' nt_itemT ?N ?hm ?k2 ?k3 ?k4 ?_ ?k6 ?k7; (case N => k_asm); (case hm => lcg_sub); (case k2 => decide); (case k3 => decide); (case k4 => exact rfl); (case k6 => with_unfolding_all rfl); (case k7 => intro _; with_unfolding_all rfl); k_whole)))
  k_with "subscriptTail Name Name ref int" => (k_here; (with_reducible show wpAny _ _ (subscriptTail _ _ (Value.ref _) (Value.int _ _)) _ _ _); k_dflt (first | (refine' nt_item ?N ?hm ?k2 ?k3 ?k4 ?_ ?k6; (case N => k_asm); (case hm => lcg_sub); (case k2 => decide); (case k3 => decide); (case k4 => exact rfl); (case k6 => with_unfolding_all rfl); k_whole) | (refine' nt_itemK ?X ?F ?hl ?k2 ?k3 ?k4 ?_ ?k6 ?k7; (case F => k_asm); (case X => k_asm); (case hl => k_is); (case k2 => decide); (case k3 => decide); (case k4 => exact rfl); (case k6 => with_unfolding_all rfl); (case k7 => intro _; with_unfolding_all rfl); k_whole) | (refine' nt_itemT ?N ?hm ?k2 ?k3 ?k4 ?_ ?k6 ?k7; (case N => k_asm); (case hm => lcg_sub); (case k2 => decide); (case k3 => decide); (case k4 => exact rfl); (case k6 => with_unfolding_all rfl); (case k7 => intro _; with_unfolding_all rfl); k_whole)))
  k_with "subscriptTail Attribute Name Constant ref int" => (k_here; (with_reducible show wpAny _ _ (subscriptTail _ _ (Value.ref _) (Value.int _ _)) _ _ _); k_dflt (first | (refine' nt_item ?N ?hm ?k2 ?k3 ?k4 ?_ ?k6; (case N => k_asm); (case hm => lcg_sub); (case k2 => decide); (case k3 => decide); (case k4 => exact rfl); (case k6 => with_unfolding_all rfl); k_whole) | (refine' nt_itemK ?X ?F ?hl ?k2 ?k3 ?k4 ?_ ?k6 ?k7; (case F => k_asm); (case X => k_asm); (case hl => k_is); (case k2 => decide); (case k3 => decide); (case k4 => exact rfl); (case k6 => with_unfolding_all rfl); (case k7 => intro _; with_unfolding_all rfl); k_whole) | (refine' nt_itemT ?N ?hm ?k2 ?k3 ?k4 ?_ ?k6 ?k7; (case N => k_asm); (case hm => lcg_sub); (case k2 => decide); (case k3 => decide); (case k4 => exact rfl); (case k6 => with_unfolding_all rfl); (case k7 => intro _; with_unfolding_all rfl); k_whole)))
  k_with "subscriptTail Attribute Name Name ref int" => (k_here; (with_reducible show wpAny _ _ (subscriptTail _ _ (Value.ref _) (Value.int _ _)) _ _ _); k_dflt (first | (refine' nt_item ?N ?hm ?k2 ?k3 ?k4 ?_ ?k6; (case N => k_asm); (case hm => lcg_sub); (case k2 => decide); (case k3 => decide); (case k4 => exact rfl); (case k6 => with_unfolding_all rfl); k_whole) | (refine' nt_itemK ?X ?F ?hl ?k2 ?k3 ?k4 ?_ ?k6 ?k7; (case F => k_asm); (case X => k_asm); (case hl => k_is); (case k2 => decide); (case k3 => decide); (case k4 => exact rfl); (case k6 => with_unfolding_all rfl); (case k7 => intro _; with_unfolding_all rfl); k_whole) | (refine' nt_itemT ?N ?hm ?k2 ?k3 ?k4 ?_ ?k6 ?k7; (case N => k_asm); (case hm => lcg_sub); (case k2 => decide); (case k3 => decide); (case k4 => exact rfl); (case k6 => with_unfolding_all rfl); (case k7 => intro _; with_unfolding_all rfl); k_whole)))
  k_with "subscriptTail Subscript Name ref int" => (k_here; (with_reducible show wpAny _ _ (subscriptTail _ _ (Value.ref _) (Value.int _ _)) _ _ _); k_dflt (first | (refine' nt_item ?N ?hm ?k2 ?k3 ?k4 ?_ ?k6; (case N => k_asm); (case hm => lcg_sub); (case k2 => decide); (case k3 => decide); (case k4 => exact rfl); (case k6 => with_unfolding_all rfl); k_whole) | (refine' nt_itemK ?X ?F ?hl ?k2 ?k3 ?k4 ?_ ?k6 ?k7; (case F => k_asm); (case X => k_asm); (case hl => k_is); (case k2 => decide); (case k3 => decide); (case k4 => exact rfl); (case k6 => with_unfolding_all rfl); (case k7 => intro _; with_unfolding_all rfl); k_whole) | (refine' nt_itemT ?N ?hm ?k2 ?k3 ?k4 ?_ ?k6 ?k7; (case N => k_asm); (case hm => lcg_sub); (case k2 => decide); (case k3 => decide); (case k4 => exact rfl); (case k6 => with_unfolding_all rfl); (case k7 => intro _; with_unfolding_all rfl); k_whole)))
  k_with "subscriptTail Subscript Constant ref int" => (k_here; (with_reducible show wpAny _ _ (subscriptTail _ _ (Value.ref _) (Value.int _ _)) _ _ _); k_dflt (first | (refine' nt_item ?N ?hm ?k2 ?k3 ?k4 ?_ ?k6; (case N => k_asm); (case hm => lcg_sub); (case k2 => decide); (case k3 => decide); (case k4 => exact rfl); (case k6 => with_unfolding_all rfl); k_whole) | (refine' nt_itemK ?X ?F ?hl ?k2 ?k3 ?k4 ?_ ?k6 ?k7; (case F => k_asm); (case X => k_asm); (case hl => k_is); (case k2 => decide); (case k3 => decide); (case k4 => exact rfl); (case k6 => with_unfolding_all rfl); (case k7 => intro _; with_unfolding_all rfl); k_whole) | (refine' nt_itemT ?N ?hm ?k2 ?k3 ?k4 ?_ ?k6 ?k7; (case N => k_asm); (case hm => lcg_sub); (case k2 => decide); (case k3 => decide); (case k4 => exact rfl); (case k6 => with_unfolding_all rfl); (case k7 => intro _; with_unfolding_all rfl); k_whole)))
  k_with "setItem ref int" => (k_here; k_dflt (refine' ki_set ?F ?N ?k2 ?k3 ?k4 ?U ?_; (case F => k_asm); (case N => k_asm); (case U => k_upd); (case k2 => decide); (case k3 => decide); (case k4 => exact rfl); k_whole); intro h' F' N'; (try k_sweep))
  k_with "eval Name" => (k_here; (with_reducible show wpAny _ _ (eval (Expr.Name _ _) (envOf _ _ _ _ _)) _ _ _); (with_reducible rename Fr _ _ _ _ => kF); k_dflt (first | (name_kind "local"; (refine' ld kF ?k2 ?_ ?a ?b ?c; (case k2 => exact rfl); (case a => kernel_rfl!); (case b => kernel_rfl!); (case c => decide +kernel)); k_whole) | (name_kind "globalImplicit"; (refine' name_K kF ?k1 ?k2 ?k3 ?_ ?a ?b ?c; (case k1 => k_asm); (case k2 => k_asm); (case k3 => k_is); (case a => kernel_rfl!); (case b => kernel_rfl!); (case c => decide +kernel); k_whole)) | (refine' name_B kF ?k1 ?k2 ?k3 ?k4 ?k5 ?_; (case k1 => k_asm); (case k2 => k_asm); (case k3 => k_is); (case k4 => boot_by_name); (case k5 => decide); k_whole)))
  k_with "compareOp NotEq ref ref" => (k_here; k_dflt (first | (with_reducible refine' ne_t3 ?N ?ha ?hb ?e1 ?e2 ?e3 ?hu ?_; (case N => k_asm); (case ha => lcg_sub); (case hb => lcg_sub); (case e1 => first | assumption | exact (Grey.h (by assumption) (by assumption) (by assumption)).1 | exact (Grey2.h (by assumption) (by assumption) (by assumption)).1 | rfl); (case e2 => first | assumption | exact (Grey.h (by assumption) (by assumption) (by assumption)).2.1 | exact (Grey2.h (by assumption) (by assumption) (by assumption)).2.1 | rfl); (case e3 => first | assumption | exact (Grey.h (by assumption) (by assumption) (by assumption)).2.2 | exact (Grey2.h (by assumption) (by assumption) (by assumption)).2.2 | rfl); (case hu => units_room)) | (with_reducible refine' ne_l3 ?N ?ha ?hb ?e1 ?e2 ?e3 ?hu ?_; (case N => k_asm); (case ha => lcg_sub); (case hb => lcg_sub); (case e1 => first | assumption | exact (Grey.h (by assumption) (by assumption) (by assumption)).1 | exact (Grey2.h (by assumption) (by assumption) (by assumption)).1 | rfl); (case e2 => first | assumption | exact (Grey.h (by assumption) (by assumption) (by assumption)).2.1 | exact (Grey2.h (by assumption) (by assumption) (by assumption)).2.1 | rfl); (case e3 => first | assumption | exact (Grey.h (by assumption) (by assumption) (by assumption)).2.2 | exact (Grey2.h (by assumption) (by assumption) (by assumption)).2.2 | rfl); (case hu => units_room)) | (with_reducible refine' ne_l0 ?N ?ha ?hb ?hu ?_; (case N => k_asm); (case ha => lcg_sub); (case hb => lcg_sub); (case hu => units_room))))
  k_with "compareOp Eq ref ref" => (k_here; k_dflt ((with_reducible refine' eq_l0 ?N ?ha ?hb ?hu ?_; (case N => k_asm); (case ha => lcg_sub); (case hb => lcg_sub); (case hu => units_room))))
  k_with "eval Call" => ((with_reducible show wpAny _ _ (eval (Expr.Call (Expr.Name _ _) _ [] _) (envOf _ _ _ _ _)) _ _ _); k_dflt (refine Call_ ?_))
  k_with "call builtin:list.append" => (k_here; (with_reducible show wpAny _ _ (call (Value.builtin _) [Value.ref _, _]) _ _ _); k_dflt (refine' nt_append ?F ?N ?P ?off ?hsz ?_; (case F => k_asm); (case N => k_asm); (case P => repeat' (first | exact Pick.head | refine' Pick.tail ?_)); (case off => k_all); (case hsz => first | exact Nat.le_of_ble_eq_true rfl | size_fits)); intro h' F' N'; (try simp only [List.cons_append, List.nil_append] at N'); (try k_sweep))
  k_with "exec For Name Call cons nil" => (k_here; (with_reducible rename Fr _ _ _ _ => lF'); (with_unfolding_all refine' For_turns lF' ?_; k_whole))
  k_with "pyIter ref" => (k_here; (with_reducible show wpAny _ _ (pyIter (Value.ref _)) (fun it s₂ => TurnsAt _ _ _ _ _ _ _ _ _ it s₂) _ _); k_dflt (refine' rangeTurns ?hh ?hr ?hs ?hn ?F ?N ?_; (case hh => rfl); (case hr => assumption); (case hs => first | decide | rfl); (case hn => first | rfl | decide); (case F => k_asm); (case N => k_asm)); intro i' l1'; (try k_lt l1'))
  k_with "UnrEndW" => (refine' unrEnd ?F ?N ?P ?off ⟨trivial, ?_⟩; (case F => assumption); (case N => assumption); (case P => repeat' (first | exact Pick.head | refine' Pick.tail ?_)); (case off => k_all))
  k_with "eval ListComp" => (k_here; (with_reducible show wpAny _ _ (eval (PySem.Expr.ListComp _ [⟨PySem.Expr.Name _ _, _, [], _⟩] _ _) _) _ _ _); (try k_fold); k_dflt (refine ListComp_X (F₀ := by k_asm) (by with_unfolding_all rfl) (by intro _; rfl) (by intro _; rfl) (by rfl) (by decide) (by rfl) ?_))
  k_with "SrcX" => (k_here; k_dflt (refine SrcX.intro (by rfl) (by k_asm) (by k_asm) (by assumption) (by first | decide | rfl) (by first | rfl | decide) (by first | exact Nat.le_of_ble_eq_true rfl | size_fits) ?_; intro g'))
  k_with "RestX" => (with_unfolding_all first | (refine RestX.succ ?_; intro t' I' oI' C' oC' X' oX' D' h' tk' E' hX' F' N' off' ne'; (obtain ⟨ne1', ne2', ne3', ne4', ne5', ne6'⟩ := ne')) | refine RestX.zero ?_)
  k_with "EndX" => (refine' EndX.intro ?F ?N ?P1 ?P2 ?P3 ?P4 ?off ?_; (case F => assumption); (case N => assumption); (case P1 => repeat' (first | exact Pick.head | refine' Pick.tail ?_)); (case P2 => repeat' (first | exact Pick.head | refine' Pick.tail ?_)); (case P3 => repeat' (first | exact Pick.head | refine' Pick.tail ?_)); (case P4 => repeat' (first | exact Pick.head | refine' Pick.tail ?_)); (case off => repeat' (first | exact True.intro | assumption | (refine And.intro (by first | assumption | exact ⟨by k_ne, by k_ne, by k_ne, by k_ne⟩) ?_))))
  k_with "call ref" => (k_here; (with_reducible show wpAny _ _ (call (Value.ref 84) _) _ _ _); k_dflt (refine' Con.use (c_plane _ _ _ _ _ _ _) ?B ?F ?X ?N ?T ?hk ?hd ?hu ?_; (case F => k_asm); (case N => k_asm); (case T => k_asm); (case X => k_asm); (case B => k_asm); (case hk => first | exact rfl | assumption); (case hd => ktr_room); (case hu => ktr_units); k_whole); intro x' d' k1' k2' k3' h' tk' F' N' l1' l2' l3'; skip; (try k_sweep))
  k_with "call ref" => (k_here; (with_reducible show wpAny _ _ (call (Value.ref 122) _) _ _ _); k_dflt (refine' Con.use (c_pic _ _ _ _ _ _ _) ?B ?F ?X ?N ?T ?hk ?hd ?hu ?_; (case F => k_asm); (case N => k_asm); (case T => k_asm); (case X => k_asm); (case B => k_asm); (case hk => first | exact rfl | assumption); (case hd => ktr_room); (case hu => ktr_units); k_whole); intro x' d' k1' k2' k3' h' tk' F' N' l1' l2' l3'; skip; (try k_sweep))
  k_with "call ref" => (k_here; (with_reducible show wpAny _ _ (call (Value.ref 228) _) _ _ _); k_dflt (refine' Con.use (c_turning _ _ _ _ _ _ _ _) ?B ?F ?X ?N ?T ?hk ?hd ?hu ?_; (case F => k_asm); (case N => k_asm); (case T => k_asm); (case X => k_asm); (case B => k_asm); (case hk => first | exact rfl | assumption); (case hd => ktr_room); (case hu => ktr_units); k_whole); intro x' d' k1' k2' k3' h' tk' F' N' l1' l2' l3'; skip; (try k_sweep))
  k_with "call ref" => (k_here; (with_reducible show wpAny _ _ (call (Value.ref 159) _) _ _ _); k_dflt (refine' Con.use (c_copied _ _ _ _ _ _ _ ?hP) ?B ?F ?X ?N ?T ?hk ?hd ?hu ?_; (case F => k_asm); (case N => k_asm); (case hP => (refine' PlaneIn.sub ?s9 ?h9; (case h9 => with_reducible assumption); (case s9 => (repeat' (first | with_reducible assumption | exact Sub.refl | refine Sub.cons ?_))))); (case T => k_asm); (case X => k_asm); (case B => k_asm); (case hk => first | exact rfl | assumption); (case hd => ktr_room); (case hu => ktr_units); k_whole); intro x' d' rl' r0' r1' tx' ty' k1' k2' k3' ta' tb' tc' td' c1' c2' c3' h' tk' F' N' o1' o2' o3' o4' o5'; (try k_sweep))
  unfold Con
  k_fill
  intro mean mg mb dp un gd cn cs aa ccd cl outer A₀ base h₀ L m s Q E B F X9 N T9 hk hd hu hret
  obtain ⟨dX, taX, tpX, k1X, k2X, k3X, mX1, mX2⟩ := hX
  refine wpAny_call ?_
  k_dflt k_enter
  k_steps
  all_goals (rename Fr h₀ L _ _ => hF; rename News h₀ L _ _ => hN)
  refine' hret _ _ _ _ _ _ _ ?pc ?ql ?p0 ?s0 ?F ?N
  case F => exact hF
  case N => exact hN
  case pc => exact ⟨_, _, _, _, _, _, by lcg_sub, by lcg_sub⟩
  case ql => lcg_sub
  case p0 => exact ⟨_, _, _, _, _, _, _, _, _, _, _, _, _, _, _, _, by lcg_sub, by lcg_sub, by lcg_sub, by lcg_sub, by lcg_sub⟩
  case s0 => repeat (with_reducible first | exact Sub.refl | refine Sub.cons ?_)
end
-- NtFm
section
open PySem PySem.W PySem.Spec PySem.Calls PyProof.Rows PySem.SeqAt
theorem c_fm_rgb (w : World) (news : Led) (t : Tok) :
   Con w 261 [.str (Str.ofString "rgb") t] news 20 (fun h₀ L m Q => ∀ (t' : Tok) (h' : Heap) (tk' : Nat), Fr h₀ L h' m → News h₀ L h' news → Q (.str (Str.ofString "ycc") t') h' tk') := by
  w_top off
  k_with_none
  k_with "k_room" => skip
  k_with "units_room" => skip
  k_with "k_all" => ((repeat ((refine' List.forall_mem_cons.mpr ⟨?ha, ?_⟩); (case ha => k_ne))); (first | exact List.forall_mem_nil _ | assumption | exact off1_all (by assumption) | exact allLt_ne (by assumption) (by (try dsimp only); omega) | ((with_reducible rename _ ∧ AllLt _ _ => hx9); exact allLt_ne hx9.2 (by (try dsimp only); omega)) | ((with_reducible rename _ ∧ _ ∧ AllLt _ _ => hx9); exact allLt_ne hx9.2.2 (by (try dsimp only); omega)) | ((with_reducible rename _ ∧ _ ∧ _ ∧ AllLt _ _ => hx9); exact allLt_ne hx9.2.2.2 (by (try dsimp only); omega))))
  k_with "lcg_sub" => first | with_reducible assumption | ((with_reducible (repeat' (first | exact List.mem_cons_self | assumption | refine List.mem_cons_of_mem _ ?_))); done)
  k_with "k_mem" => first | with_reducible assumption | ((with_reducible (repeat' (first | exact List.mem_cons_self | assumption | refine List.mem_cons_of_mem _ ?_))); done)
  k_with "lcg_off" => first | exact True.intro | assumption | (refine And.intro (by first | assumption | exact ⟨by k_ne, by k_ne, by k_ne⟩) ?_; lcg_off)
  k_with "k_lt" => skip
  k_with "k_ne" => (refine neN ?_; (try dsimp only); first | with_reducible assumption | exact Ne.symm (by with_reducible assumption) | exact o_gt (by with_reducible assumption) (by lcg_sub) | exact o_1' (by with_reducible assumption) (by lcg_sub) | exact o_lt (by with_reducible assumption) (by lcg_sub) | exact o_1 (by with_reducible assumption) (by lcg_sub) | exact o_3I (by with_reducible assumption) (by lcg_sub) | exact Ne.symm (o_3I (by with_reducible assumption) (by lcg_sub)) | exact o_3C (by with_reducible assumption) (by lcg_sub) | exact Ne.symm (o_3C (by with_reducible assumption) (by lcg_sub)) | exact o_3D (by with_reducible assumption) (by lcg_sub) | exact Ne.symm (o_3D (by with_reducible assumption) (by lcg_sub)) | exact o_4I (by with_reducible assumption) (by lcg_sub) | exact Ne.symm (o_4I (by with_reducible assumption) (by lcg_sub)) | exact o_4C (by with_reducible assumption) (by lcg_sub) | exact Ne.symm (o_4C (by with_reducible assumption) (by lcg_sub)) | exact o_4X (by with_reducible assumption) (by lcg_sub) | exact Ne.symm (o_4X (by with_reducible assumption) (by lcg_sub)) | exact o_4D (by with_reducible assumption) (by lcg_sub) | exact Ne.symm (o_4D (by with_reducible assumption) (by lcg_sub)) | ((repeat (first | exact cn1 | exact cn2 | exact cn3 | exact cn4 | exact cn5 | exact cn6 | exact cn7 | exact Ne.symm cn1 | exact Ne.symm cn2 | exact Ne.symm cn3 | exact Ne.symm cn4 | exact Ne.symm cn5 | exact Ne.symm cn6 | exact Ne.symm cn7 | refine cnS ?_)); done))
  k_with "k_all" => ((repeat ((refine' List.forall_mem_cons.mpr ⟨?ha, ?_⟩); (case ha => k_ne))); (first | exact List.forall_mem_nil _ | with_reducible assumption | exact all_lt (by with_reducible assumption) (by (repeat' (first | with_reducible assumption | exact Sub.refl | refine Sub.cons ?_))) | exact all_1 (by with_reducible assumption) (by (repeat' (first | with_reducible assumption | exact Sub.refl | refine Sub.cons ?_))) | exact all_3I (by with_reducible assumption) (by (repeat' (first | with_reducible assumption | exact Sub.refl | refine Sub.cons ?_))) | exact all_3C (by with_reducible assumption) (by (repeat' (first | with_reducible assumption | exact Sub.refl | refine Sub.cons ?_))) | exact all_3D (by with_reducible assumption) (by (repeat' (first | with_reducible assumption | exact Sub.refl | refine Sub.cons ?_))) | exact all_4I (by with_reducible assumption) (by (repeat' (first | with_reducible assumption | exact Sub.refl | refine Sub.cons ?_))) | exact all_4C (by with_reducible assumption) (by (repeat' (first | with_reducible assumption | exact Sub.refl | refine Sub.cons ?_))) | exact all_4X (by with_reducible assumption) (by (repeat' (first | with_reducible assumption | exact Sub.refl | refine Sub.cons ?_))) | exact all_4D (by with_reducible assumption) (by (repeat' (first | with_reducible assumption | exact Sub.refl | refine Sub.cons ?_))) | exact allLt_ne (by with_reducible assumption) (by repeat (first | exact Nat.le_refl _ | refine Nat.le_succ_of_le ?_))))
  k_with "k_enter" => skip
  k_with "FinE" => ((unfold LCg.FinE); intro D' h' tk' F' N' o1'; (try simp only [List.nil_append, List.cons_append] at N'); (try dsimp only))
  k_with "FinA" => ((unfold LCg.FinA); intro D' h' tk' F' N' o1'; (try simp only [List.nil_append, List.cons_append] at N'); (try dsimp only))
  k_with "CompEnd" => (refine' nt_compEnd ?F ?N ?P1 ?P2 ?P3 ?off ?S ?_; (case F => assumption); (case N => assumption); (case P1 => repeat' (first | exact Pick.head | refine' Pick.tail ?_)); (case P2 => repeat' (first | exact Pick.head | refine' Pick.tail ?_)); (case P3 => repeat' (first | exact Pick.head | refine' Pick.tail ?_)); (case off => lcg_off); (case S => first | lcg_src | assumption))
  k_with "eval ListComp" => (k_here; (with_reducible show wpAny _ _ (eval (PySem.Expr.ListComp _ [⟨PySem.Expr.Name _ _, _, [], _⟩] _ _) _) _ _ _); (try k_fold); k_dflt (refine LCg.ListComp_U (F₀ := by k_asm) (by with_unfolding_all rfl) (by decide) (by rfl) (by decide) (by rfl) ?_))
  k_with "exec Assign cons ListComp" => (k_here; k_dflt (refine LCg.Assign_ListComp_U (F₀ := by k_asm) (by rfl) (by with_unfolding_all rfl) (by with_unfolding_all rfl) (by decide) (by rfl) (by decide) (by rfl) (by rfl) (by rfl) ?_))
  k_with "eval ListComp" => (k_here; (with_reducible show wpAny _ _ (eval (PySem.Expr.ListComp _ [⟨PySem.Expr.Name _ _, _, [_], _⟩] _ _) _) _ _ _); (try k_fold); k_dflt (refine LCt.ListComp_T (F₀ := by k_asm) (by with_unfolding_all rfl) (by decide) (by rfl) (by decide) (by rfl) ?_))
  k_with "CompSrcT" => (k_here; k_dflt (first | (refine LCt.CompSrcT.ledger (by rfl) (by k_asm) (by k_asm) (by lcg_sub) (by first | exact Nat.le_of_ble_eq_true rfl | size_fits) ?_; intro g'; lct_lit) | (refine LCt.CompSrcT.range (by rfl) (by k_asm) (by k_asm) (by assumption) (by first | decide | rfl) (by first | rfl | decide) (by first | exact Nat.le_of_ble_eq_true rfl | size_fits) ?_; intro g'; lct_lit)))
  k_with "CompRestT" => (with_unfolding_all first | (refine LCt.CompRestT.succ ?_; intro v' I' oI' C' oC' D' m' h' tk' E' hv' hC' hx' F' N' off' ne'; (first | lcg_open hv' | (obtain ⟨t9', hv9'⟩ := hv'; subst hv9')); (obtain ⟨ne1', ne2', ne3'⟩ := ne')) | refine LCt.CompRestT.zero ?_)
  k_with "CompSrc" => (k_here; k_dflt (first | (refine LCg.CompSrc.ledger (by rfl) (by k_asm) (by k_asm) (by lcg_sub) (by first | exact Nat.le_of_ble_eq_true rfl | size_fits) ?_; intro g'; lcg_lit) | (refine LCg.CompSrc.range (by rfl) (by k_asm) (by k_asm) (by assumption) (by first | decide | rfl) (by first | rfl | decide) (by first | exact Nat.le_of_ble_eq_true rfl | size_fits) ?_; intro g'; lcg_lit)))
  k_with "CompRest" => (with_unfolding_all first | (refine LCg.CompRest.succ ?_; intro v' I' oI' C' oC' D' m' h' tk' E' hv' hC' hx' F' N' off' ne'; (first | lcg_open hv' | (obtain ⟨t9', hv9'⟩ := hv'; subst hv9')); (obtain ⟨ne1', ne2', ne3'⟩ := ne')) | refine LCg.CompRest.zero ?_)
  k_with "execs cons" => ((with_reducible refine gen_toks (fun tk => ?_)); (with_reducible refine wpAny_execs_cons ?_); (try dsimp only); (try k_fold))
  k_with "subscriptTail" => (k_here; (with_reducible show wpAny _ _ (subscriptTail _ _ (Value.ref _) (Value.int _ _)) _ _ _); k_dflt (first | (refine' nt_item ?N ?hm ?k2 ?k3 ?k4 ?_ ?k6; (case N => k_asm); (case hm => lcg_sub); (case k2 => decide); (case k3 => decide); (case k4 => exact rfl); (case k6 => with_unfolding_all rfl); k_whole) | (refine' nt_itemK ?X ?F ?hl ?k2 ?k3 ?k4 ?_ ?k6 ?k7; (case F => k_asm); (case X => k_asm); (case hl => k_is); (case k2 => decide); (case k3 => decide); (case k4 => exact rfl); (case k6 => with_unfolding_all rfl); (case k7 => intro _; with_unfolding_all rfl); k_whole) | (refine' nt_itemT ?N ?hm ?k2 ?k3 ?k4 ?_ ?k6 ?k7; (case N => k_asm); (case hm => lcg_sub); (case k2 => decide); (case k3 => decide); (case k4 => exact rfl); (case k6 => with_unfolding_all rfl); (case k7 => intro _; with_unfolding_all rfl); k_whole)))
  k_with "subscriptTail Name Constant ref int" => (k_here; (with_reducible show wpAny _ _ (subscriptTail _ _ (Value.ref _) (Value.int _ _)) _ _ _); k_dflt (first | (refine' nt_item ?N ?hm ?k2 ?k3 ?k4 ?_ ?k6; (case N => k_asm); (case hm => lcg_sub); (case k2 => decide); (case k3 => decide); (case k4 => exact rfl); (case k6 => with_unfolding_all rfl); k_whole) | (refine' nt_itemK ?X ?F ?hl ?k2 ?k3 ?k4 ?_ ?k6 ?k7; (case F => k_asm); (case X => k_asm); (case hl => k_is); (case k2 => decide); (case k3 => decide); (case k4 => exact rfl); (case k6 => with_unfolding_all rfl); (case k7 => intro _; with_unfolding_all rfl); k_whole) | (refine' nt_itemT ?N ?hm ?k2 ?k3 ?k4 ?_ ?k6 ?k7; (case N => k_asm); (case hm => lcg_sub); (case k2 => decide); (case k3 => decide); (case k4 => exact rfl); (case k6 => with_unfolding_all rfl); (case k7 => intro _; with_unfolding_all rfl); k_whole)))
  k_with "subscriptTail Name Name ref int" => (k_here; (with_reducible show wpAny _ _ (subscriptTail _ _ (Value.ref _) (Value.int _ _)) _ _ _); k_dflt (first | (refine' nt_item ?N ?hm ?k2 ?k3 ?k4 ?_ ?k6; (case N => k_asm); (case hm => lcg_sub); (case k2 => decide); (case k3 => decide); (case k4 => exact rfl); (case k6 => with_unfolding_all rfl); k_whole) | (refine' nt_itemK ?X ?F ?hl ?k2 ?k3 ?k4 ?_ ?k6 ?k7; (case F => k_asm); (case X => k_asm); (case hl => k_is); (case k2 => decide); (case k3 => decide); (case k4 => exact rfl); (case k6 => with_unfolding_all rfl); (case k7 => intro _; with_unfolding_all rfl); k_whole) | (refine' nt_itemT ?N ?hm ?k2 ?k3 ?k4 ?_ ?k6 ?k7; (case N => k_asm); (case hm => lcg_sub); (case k2 => decide); (case k3 => decide); (case k4 => exact rfl); (case k6 => with_unfolding_all rfl); (case k7 => intro _; with_unfolding_all rfl); k_whole)))
  k_with "subscriptTail Attribute Name Constant ref int" => (k_here; (with_reducible show wpAny _ _ (subscriptTail _ _ (Value.ref _) (Value.int _ _)) _ _ _); k_dflt (first | (refine' nt_item ?N ?hm ?k2 ?k3 ?k4 ?_ ?k6; (case N => k_asm); (case hm => lcg_sub); (case k2 => decide); (case k3 => decide); (case k4 => exact rfl); (case k6 => with_unfolding_all rfl); k_whole) | (refine' nt_itemK ?X ?F ?hl ?k2 ?k3 ?k4 ?_ ?k6 ?k7; (case F => k_asm); (case X => k_asm); (case hl => k_is); (case k2 => decide); (case k3 => decide); (case k4 => exact rfl); (case k6 => with_unfolding_all rfl); (case k7 => intro _; with_unfolding_all rfl); k_whole) | (refine' nt_itemT ?N ?hm ?k2 ?k3 ?k4 ?_ ?k6 ?k7; (case N => k_asm); (case hm => lcg_sub); (case k2 => decide); (case k3 => decide); (case k4 => exact rfl); (case k6 => with_unfolding_all rfl); (case k7 => intro _; with_unfolding_all rfl); k_whole)))
  k_with "subscriptTail Attribute Name Name ref int" => (k_here; (with_reducible show wpAny _ _ (subscriptTail _ _ (Value.ref _) (Value.int _ _)) _ _ _); k_dflt (first | (refine' nt_item ?N ?hm ?k2 ?k3 ?k4 ?_ ?k6; (case N => k_asm); (case hm => lcg_sub); (case k2 => decide); (case k3 => decide); (case k4 => exact rfl); (case k6 => with_unfolding_all rfl); k_whole) | (refine' nt_itemK ?X ?F ?hl ?k2 ?k3 ?k4 ?_ ?k6 ?k7; (case F => k_asm); (case X => k_asm); (case hl => k_is); (case k2 => decide); (case k3 => decide); (case k4 => exact rfl); (case k6 => with_unfolding_all rfl); (case k7 => intro _; with_unfolding_all rfl); k_whole) | (refine' nt_itemT ?N ?hm ?k2 ?k3 ?k4 ?_ ?k6 ?k7; (case N => k_asm); (case hm => lcg_sub); (case k2 => decide); (case k3 => decide); (case k4 => exact rfl); (case k6 => with_unfolding_all rfl); (case k7 => intro _; with_unfolding_all rfl); k_whole)))
  k_with "subscriptTail Subscript Name ref int" => (k_here; (with_reducible show wpAny _ _ (subscriptTail _ _ (Value.ref _) (Value.int _ _)) _ _ _); k_dflt (first | (refine' nt_item ?N ?hm ?k2 ?k3 ?k4 ?_ ?k6; (case N => k_asm); (case hm => lcg_sub); (case k2 => decide); (case k3 => decide); (case k4 => exact rfl); (case k6 => with_unfolding_all rfl); k_whole) | (refine' nt_itemK ?X ?F ?hl ?k2 ?k3 ?k4 ?_ ?k6 ?k7; (case F => k_asm); (case X => k_asm); (case hl => k_is); (case k2 => decide); (case k3 => decide); (case k4 => exact rfl); (case k6 => with_unfolding_all rfl); (case k7 => intro _; with_unfolding_all rfl); k_whole) | (refine' nt_itemT ?N ?hm ?k2 ?k3 ?k4 ?_ ?k6 ?k7; (case N => k_asm); (case hm => lcg_sub); (case k2 => decide); (case k3 => decide); (case k4 => exact rfl); (case k6 => with_unfolding_all rfl); (case k7 => intro _; with_unfolding_all rfl); k_whole)))
  k_with "subscriptTail Subscript Constant ref int" => (k_here; (with_reducible show wpAny _ _ (subscriptTail _ _ (Value.ref _) (Value.int _ _)) _ _ _); k_dflt (first | (refine' nt_item ?N ?hm ?k2 ?k3 ?k4 ?_ ?k6; (case N => k_asm); (case hm => lcg_sub); (case k2 => decide); (case k3 => decide); (case k4 => exact rfl); (case k6 => with_unfolding_all rfl); k_whole) | (refine' nt_itemK ?X ?F ?hl ?k2 ?k3 ?k4 ?_ ?k6 ?k7; (case F => k_asm); (case X => k_asm); (case hl => k_is); (case k2 => decide); (case k3 => decide); (case k4 => exact rfl); (case k6 => with_unfolding_all rfl); (case k7 => intro _; with_unfolding_all rfl); k_whole) | (refine' nt_itemT ?N ?hm ?k2 ?k3 ?k4 ?_ ?k6 ?k7; (case N => k_asm); (case hm => lcg_sub); (case k2 => decide); (case k3 => decide); (case k4 => exact rfl); (case k6 => with_unfolding_all rfl); (case k7 => intro _; with_unfolding_all rfl); k_whole)))
  k_with "setItem ref int" => (k_here; k_dflt (refine' ki_set ?F ?N ?k2 ?k3 ?k4 ?U ?_; (case F => k_asm); (case N => k_asm); (case U => k_upd); (case k2 => decide); (case k3 => decide); (case k4 => exact rfl); k_whole); intro h' F' N'; (try k_sweep))
  k_with "eval Name" => (k_here; (with_reducible show wpAny _ _ (eval (Expr.Name _ _) (envOf _ _ _ _ _)) _ _ _); (with_reducible rename Fr _ _ _ _ => kF); k_dflt (first | (name_kind "local"; (refine' ld kF ?k2 ?_ ?a ?b ?c; (case k2 => exact rfl); (case a => kernel_rfl!); (case b => kernel_rfl!); (case c => decide +kernel)); k_whole) | (name_kind "globalImplicit"; (refine' name_K kF ?k1 ?k2 ?k3 ?_ ?a ?b ?c; (case k1 => k_asm); (case k2 => k_asm); (case k3 => k_is); (case a => kernel_rfl!); (case b => kernel_rfl!); (case c => decide +kernel); k_whole)) | (refine' name_B kF ?k1 ?k2 ?k3 ?k4 ?k5 ?_; (case k1 => k_asm); (case k2 => k_asm); (case k3 => k_is); (case k4 => boot_by_name); (case k5 => decide); k_whole)))
  k_with "compareOp NotEq ref ref" => (k_here; k_dflt (first | (with_reducible refine' ne_t3 ?N ?ha ?hb ?e1 ?e2 ?e3 ?hu ?_; (case N => k_asm); (case ha => lcg_sub); (case hb => lcg_sub); (case e1 => first | assumption | exact (Grey.h (by assumption) (by assumption) (by assumption)).1 | exact (Grey2.h (by assumption) (by assumption) (by assumption)).1 | rfl); (case e2 => first | assumption | exact (Grey.h (by assumption) (by assumption) (by assumption)).2.1 | exact (Grey2.h (by assumption) (by assumption) (by assumption)).2.1 | rfl); (case e3 => first | assumption | exact (Grey.h (by assumption) (by assumption) (by assumption)).2.2 | exact (Grey2.h (by assumption) (by assumption) (by assumption)).2.2 | rfl); (case hu => units_room)) | (with_reducible refine' ne_l3 ?N ?ha ?hb ?e1 ?e2 ?e3 ?hu ?_; (case N => k_asm); (case ha => lcg_sub); (case hb => lcg_sub); (case e1 => first | assumption | exact (Grey.h (by assumption) (by assumption) (by assumption)).1 | exact (Grey2.h (by assumption) (by assumption) (by assumption)).1 | rfl); (case e2 => first | assumption | exact (Grey.h (by assumption) (by assumption) (by assumption)).2.1 | exact (Grey2.h (by assumption) (by assumption) (by assumption)).2.1 | rfl); (case e3 => first | assumption | exact (Grey.h (by assumption) (by assumption) (by assumption)).2.2 | exact (Grey2.h (by assumption) (by assumption) (by assumption)).2.2 | rfl); (case hu => units_room)) | (with_reducible refine' ne_l0 ?N ?ha ?hb ?hu ?_; (case N => k_asm); (case ha => lcg_sub); (case hb => lcg_sub); (case hu => units_room))))
  k_with "compareOp Eq ref ref" => (k_here; k_dflt ((with_reducible refine' eq_l0 ?N ?ha ?hb ?hu ?_; (case N => k_asm); (case ha => lcg_sub); (case hb => lcg_sub); (case hu => units_room))))
  k_with "eval Call" => ((with_reducible show wpAny _ _ (eval (Expr.Call (Expr.Name _ _) _ [] _) (envOf _ _ _ _ _)) _ _ _); k_dflt (refine Call_ ?_))
  unfold Con
  k_fill
  intro mean mg mb dp un gd cn cs aa ccd cl outer A₀ base h₀ L m s Q E B F X9 N T9 hk hd hu hret
  refine wpAny_call ?_
  k_dflt k_enter
  k_steps
  all_goals (rename Fr h₀ L _ _ => hF; rename News h₀ L _ _ => hN)
  exact hret _ _ _ hF (nt_sub hN (by repeat (first | exact Sub.refl | refine Sub.cons ?_)))
theorem c_fm_cmyk (w : World) (news : Led) (t : Tok) :
   Con w 261 [.str (Str.ofString "cmyk") t] news 20 (fun h₀ L m Q => ∀ (t' : Tok) (h' : Heap) (tk' : Nat), Fr h₀ L h' m → News h₀ L h' news → Q (.str (Str.ofString "ycck") t') h' tk') := by
  unfold Con
  k_fill
  intro mean mg mb dp un gd cn cs aa ccd cl outer A₀ base h₀ L m s Q E B F X9 N T9 hk hd hu hret
  refine wpAny_call ?_
  k_dflt k_enter
  k_steps
  all_goals (rename Fr h₀ L _ _ => hF; rename News h₀ L _ _ => hN)
  exact hret _ _ _ hF (nt_sub hN (by repeat (first | exact Sub.refl | refine Sub.cons ?_)))
theorem c_fm_grey (w : World) (news : Led) (t : Tok) :
   Con w 261 [.str (Str.ofString "grey") t] news 20 (fun h₀ L m Q => ∀ (t' : Tok) (h' : Heap) (tk' : Nat), Fr h₀ L h' m → News h₀ L h' news → Q (.str (Str.ofString "grey") t') h' tk') := by
  unfold Con
  k_fill
  intro mean mg mb dp un gd cn cs aa ccd cl outer A₀ base h₀ L m s Q E B F X9 N T9 hk hd hu hret
  refine wpAny_call ?_
  k_dflt k_enter
  k_steps
  all_goals (rename Fr h₀ L _ _ => hF; rename News h₀ L _ _ => hN)
  exact hret _ _ _ hF (nt_sub hN (by repeat (first | exact Sub.refl | refine Sub.cons ?_)))
end
-- NtTurned
section
open PySem PySem.W PySem.Spec PySem.Calls PyProof.Rows PySem.SeqAt
theorem c_law_rgb (w : World) (news : Led) (l : Addr) (r g b k p : Int) (t t1 t2 t3 t4 t5 : Tok) (c : Nat) (hm : (l, listOf #[.int r t1, .int g t2, .int b t3, .int k t4] c) ∈ news) (hp : 2 ≤ p ∧ p ≤ 8) (hr : 0 ≤ r ∧ r ≤ 2 * mid p - 1) (hg : 0 ≤ g ∧ g ≤ 2 * mid p - 1) (hb : 0 ≤ b ∧ b ≤ 2 * mid p - 1) :
   Con w 311 [.str (Str.ofString "rgb") t, .ref l, .int p t5] news 20 (fun h₀ L m Q => ∀ (D : Addr) (y cb cr : Int) (ty tb tr : Tok) (c : Nat) (h' : Heap) (tk' : Nat), Rycc p r g b y cb cr → Fr h₀ L h' m → News h₀ L h' ((D, listOf #[.int y ty, .int cb tb, .int cr tr] c) :: news) → LCg.Off1 D news → Q (.ref D) h' tk') := by
  w_top off
  k_with_none
  k_with "k_room" => skip
  k_with "units_room" => skip
  k_with "k_all" => ((repeat ((refine' List.forall_mem_cons.mpr ⟨?ha, ?_⟩); (case ha => k_ne))); (first | exact List.forall_mem_nil _ | assumption | exact off1_all (by assumption) | exact allLt_ne (by assumption) (by (try dsimp only); omega) | ((with_reducible rename _ ∧ AllLt _ _ => hx9); exact allLt_ne hx9.2 (by (try dsimp only); omega)) | ((with_reducible rename _ ∧ _ ∧ AllLt _ _ => hx9); exact allLt_ne hx9.2.2 (by (try dsimp only); omega)) | ((with_reducible rename _ ∧ _ ∧ _ ∧ AllLt _ _ => hx9); exact allLt_ne hx9.2.2.2 (by (try dsimp only); omega))))
  k_with "lcg_sub" => first | with_reducible assumption | ((with_reducible (repeat' (first | exact List.mem_cons_self | assumption | refine List.mem_cons_of_mem _ ?_))); done)
  k_with "k_mem" => first | with_reducible assumption | ((with_reducible (repeat' (first | exact List.mem_cons_self | assumption | refine List.mem_cons_of_mem _ ?_))); done)
  k_with "lcg_off" => first | exact True.intro | assumption | (refine And.intro (by first | assumption | exact ⟨by k_ne, by k_ne, by k_ne⟩) ?_; lcg_off)
  k_with "k_lt" => skip
  k_with "k_ne" => (refine neN ?_; (try dsimp only); first | with_reducible assumption | exact Ne.symm (by with_reducible assumption) | exact o_gt (by with_reducible assumption) (by lcg_sub) | exact o_1' (by with_reducible assumption) (by lcg_sub) | exact o_lt (by with_reducible assumption) (by lcg_sub) | exact o_1 (by with_reducible assumption) (by lcg_sub) | exact o_3I (by with_reducible assumption) (by lcg_sub) | exact Ne.symm (o_3I (by with_reducible assumption) (by lcg_sub)) | exact o_3C (by with_reducible assumption) (by lcg_sub) | exact Ne.symm (o_3C (by with_reducible assumption) (by lcg_sub)) | exact o_3D (by with_reducible assumption) (by lcg_sub) | exact Ne.symm (o_3D (by with_reducible assumption) (by lcg_sub)) | exact o_4I (by with_reducible assumption) (by lcg_sub) | exact Ne.symm (o_4I (by with_reducible assumption) (by lcg_sub)) | exact o_4C (by with_reducible assumption) (by lcg_sub) | exact Ne.symm (o_4C (by with_reducible assumption) (by lcg_sub)) | exact o_4X (by with_reducible assumption) (by lcg_sub) | exact Ne.symm (o_4X (by with_reducible assumption) (by lcg_sub)) | exact o_4D (by with_reducible assumption) (by lcg_sub) | exact Ne.symm (o_4D (by with_reducible assumption) (by lcg_sub)) | ((repeat (first | exact cn1 | exact cn2 | exact cn3 | exact cn4 | exact cn5 | exact cn6 | exact cn7 | exact Ne.symm cn1 | exact Ne.symm cn2 | exact Ne.symm cn3 | exact Ne.symm cn4 | exact Ne.symm cn5 | exact Ne.symm cn6 | exact Ne.symm cn7 | refine cnS ?_)); done))
  k_with "k_all" => ((repeat ((refine' List.forall_mem_cons.mpr ⟨?ha, ?_⟩); (case ha => k_ne))); (first | exact List.forall_mem_nil _ | with_reducible assumption | exact all_lt (by with_reducible assumption) (by (repeat' (first | with_reducible assumption | exact Sub.refl | refine Sub.cons ?_))) | exact all_1 (by with_reducible assumption) (by (repeat' (first | with_reducible assumption | exact Sub.refl | refine Sub.cons ?_))) | exact all_3I (by with_reducible assumption) (by (repeat' (first | with_reducible assumption | exact Sub.refl | refine Sub.cons ?_))) | exact all_3C (by with_reducible assumption) (by (repeat' (first | with_reducible assumption | exact Sub.refl | refine Sub.cons ?_))) | exact all_3D (by with_reducible assumption) (by (repeat' (first | with_reducible assumption | exact Sub.refl | refine Sub.cons ?_))) | exact all_4I (by with_reducible assumption) (by (repeat' (first | with_reducible assumption | exact Sub.refl | refine Sub.cons ?_))) | exact all_4C (by with_reducible assumption) (by (repeat' (first | with_reducible assumption | exact Sub.refl | refine Sub.cons ?_))) | exact all_4X (by with_reducible assumption) (by (repeat' (first | with_reducible assumption | exact Sub.refl | refine Sub.cons ?_))) | exact all_4D (by with_reducible assumption) (by (repeat' (first | with_reducible assumption | exact Sub.refl | refine Sub.cons ?_))) | exact allLt_ne (by with_reducible assumption) (by repeat (first | exact Nat.le_refl _ | refine Nat.le_succ_of_le ?_))))
  k_with "k_enter" => skip
  k_with "FinE" => ((unfold LCg.FinE); intro D' h' tk' F' N' o1'; (try simp only [List.nil_append, List.cons_append] at N'); (try dsimp only))
  k_with "FinA" => ((unfold LCg.FinA); intro D' h' tk' F' N' o1'; (try simp only [List.nil_append, List.cons_append] at N'); (try dsimp only))
  k_with "CompEnd" => (refine' nt_compEnd ?F ?N ?P1 ?P2 ?P3 ?off ?S ?_; (case F => assumption); (case N => assumption); (case P1 => repeat' (first | exact Pick.head | refine' Pick.tail ?_)); (case P2 => repeat' (first | exact Pick.head | refine' Pick.tail ?_)); (case P3 => repeat' (first | exact Pick.head | refine' Pick.tail ?_)); (case off => lcg_off); (case S => first | lcg_src | assumption))
  k_with "eval ListComp" => (k_here; (with_reducible show wpAny _ _ (eval (PySem.Expr.ListComp _ [⟨PySem.Expr.Name _ _, _, [], _⟩] _ _) _) _ _ _); (try k_fold); k_dflt (refine LCg.ListComp_U (F₀ := by k_asm) (by with_unfolding_all rfl) (by decide) (by rfl) (by decide) (by rfl) ?_))
  k_with "exec Assign cons ListComp" => (k_here; k_dflt (refine LCg.Assign_ListComp_U (F₀ := by k_asm) (by rfl) (by with_unfolding_all rfl) (by with_unfolding_all rfl) (by decide) (by rfl) (by decide) (by rfl) (by rfl) (by rfl) ?_))
  k_with "eval ListComp" => (k_here; (with_reducible show wpAny _ _ (eval (PySem.Expr.ListComp _ [⟨PySem.Expr.Name _ _, _, [_], _⟩] _ _) _) _ _ _); (try k_fold); k_dflt (refine LCt.ListComp_T (F₀ := by k_asm) (by with_unfolding_all rfl) (by decide) (by rfl) (by decide) (by rfl) ?_))
  k_with "CompSrcT" => (k_here; k_dflt (first | (refine LCt.CompSrcT.ledger (by rfl) (by k_asm) (by k_asm) (by lcg_sub) (by first | exact Nat.le_of_ble_eq_true rfl | size_fits) ?_; intro g'; lct_lit) | (refine LCt.CompSrcT.range (by rfl) (by k_asm) (by k_asm) (by assumption) (by first | decide | rfl) (by first | rfl | decide) (by first | exact Nat.le_of_ble_eq_true rfl | size_fits) ?_; intro g'; lct_lit)))
  k_with "CompRestT" => (with_unfolding_all first | (refine LCt.CompRestT.succ ?_; intro v' I' oI' C' oC' D' m' h' tk' E' hv' hC' hx' F' N' off' ne'; (first | lcg_open hv' | (obtain ⟨t9', hv9'⟩ := hv'; subst hv9')); (obtain ⟨ne1', ne2', ne3'⟩ := ne')) | refine LCt.CompRestT.zero ?_)
  k_with "CompSrc" => (k_here; k_dflt (first | (refine LCg.CompSrc.ledger (by rfl) (by k_asm) (by k_asm) (by lcg_sub) (by first | exact Nat.le_of_ble_eq_true rfl | size_fits) ?_; intro g'; lcg_lit) | (refine LCg.CompSrc.range (by rfl) (by k_asm) (by k_asm) (by assumption) (by first | decide | rfl) (by first | rfl | decide) (by first | exact Nat.le_of_ble_eq_true rfl | size_fits) ?_; intro g'; lcg_lit)))
  k_with "CompRest" => (with_unfolding_all first | (refine LCg.CompRest.succ ?_; intro v' I' oI' C' oC' D' m' h' tk' E' hv' hC' hx' F' N' off' ne'; (first | lcg_open hv' | (obtain ⟨t9', hv9'⟩ := hv'; subst hv9')); (obtain ⟨ne1', ne2', ne3'⟩ := ne')) | refine LCg.CompRest.zero ?_)
  k_with "execs cons" => ((with_reducible refine gen_toks (fun tk => ?_)); (with_reducible refine wpAny_execs_cons ?_); (try dsimp only); (try k_fold))
  k_with "subscriptTail" => (k_here; (with_reducible show wpAny _ _ (subscriptTail _ _ (Value.ref _) (Value.int _ _)) _ _ _); k_dflt (first | (refine' nt_item ?N ?hm ?k2 ?k3 ?k4 ?_ ?k6; (case N => k_asm); (case hm => lcg_sub); (case k2 => decide); (case k3 => decide); (case k4 => exact rfl); (case k6 => with_unfolding_all rfl); k_whole) | (refine' nt_itemK ?X ?F ?hl ?k2 ?k3 ?k4 ?_ ?k6 ?k7; (case F => k_asm); (case X => k_asm); (case hl => k_is); (case k2 => decide); (case k3 => decide); (case k4 => exact rfl); (case k6 => with_unfolding_all rfl); (case k7 => intro _; with_unfolding_all rfl); k_whole) | (refine' nt_itemT ?N ?hm ?k2 ?k3 ?k4 ?_ ?k6 ?k7; (case N => k_asm); (case hm => lcg_sub); (case k2 => decide); (case k3 => decide); (case k4 => exact rfl); (case k6 => with_unfolding_all rfl); (case k7 => intro _; with_unfolding_all rfl); k_whole)))
  k_with "subscriptTail Name Constant ref int" => (k_here; (with_reducible show wpAny _ _ (subscriptTail _ _ (Value.ref _) (Value.int _ _)) _ _ _); k_dflt (first | (refine' nt_item ?N ?hm ?k2 ?k3 ?k4 ?_ ?k6; (case N => k_asm); (case hm => lcg_sub); (case k2 => decide); (case k3 => decide); (case k4 => exact rfl); (case k6 => with_unfolding_all rfl); k_whole) | (refine' nt_itemK ?X ?F ?hl ?k2 ?k3 ?k4 ?_ ?k6 ?k7; (case F => k_asm); (case X => k_asm); (case hl => k_is); (case k2 => decide); (case k3 => decide); (case k4 => exact rfl); (case k6 => with_unfolding_all rfl); (case k7 => intro _; with_unfolding_all rfl); k_whole) | (refine' nt_itemT ?N ?hm ?k2 ?k3 ?k4 ?_ ?k6 ?k7; (case N => k_asm); (case hm => lcg_sub); (case k2 => decide); (case k3 => decide); (case k4 => exact rfl); (case k6 => with_unfolding_all rfl); (case k7 => intro _; with_unfolding_all rfl); k_whole)))
  k_with "subscriptTail Name Name ref int" => (k_here; (with_reducible show wpAny _ _ (subscriptTail _ _ (Value.ref _) (Value.int _ _)) _ _ _); k_dflt (first | (refine' nt_item ?N ?hm ?k2 ?k3 ?k4 ?_ ?k6; (case N => k_asm); (case hm => lcg_sub); (case k2 => decide); (case k3 => decide); (case k4 => exact rfl); (case k6 => with_unfolding_all rfl); k_whole) | (refine' nt_itemK ?X ?F ?hl ?k2 ?k3 ?k4 ?_ ?k6 ?k7; (case F => k_asm); (case X => k_asm); (case hl => k_is); (case k2 => decide); (case k3 => decide); (case k4 => exact rfl); (case k6 => with_unfolding_all rfl); (case k7 => intro _; with_unfolding_all rfl); k_whole) | (refine' nt_itemT ?N ?hm ?k2 ?k3 ?k4 ?_ ?k6 ?k7; (case N => k_asm); (case hm => lcg_sub); (case k2 => decide); (case k3 => decide); (case k4 => exact rfl); (case k6 => with_unfolding_all rfl); (case k7 => intro _; with_unfolding_all rfl); k_whole)))
  k_with "subscriptTail Attribute Name Constant ref int" => (k_here; (with_reducible show wpAny _ _ (subscriptTail _ _ (Value.ref _) (Value.int _ _)) _ _ _); k_dflt (first | (refine' nt_item ?N ?hm ?k2 ?k3 ?k4 ?_ ?k6; (case N => k_asm); (case hm => lcg_sub); (case k2 => decide); (case k3 => decide); (case k4 => exact rfl); (case k6 => with_unfolding_all rfl); k_whole) | (refine' nt_itemK ?X ?F ?hl ?k2 ?k3 ?k4 ?_ ?k6 ?k7; (case F => k_asm); (case X => k_asm); (case hl => k_is); (case k2 => decide); (case k3 => decide); (case k4 => exact rfl); (case k6 => with_unfolding_all rfl); (case k7 => intro _; with_unfolding_all rfl); k_whole) | (refine' nt_itemT ?N ?hm ?k2 ?k3 ?k4 ?_ ?k6 ?k7; (case N => k_asm); (case hm => lcg_sub); (case k2 => decide); (case k3 => decide); (case k4 => exact rfl); (case k6 => with_unfolding_all rfl); (case k7 => intro _; with_unfolding_all rfl); k_whole)))
  k_with "subscriptTail Attribute Name Name ref int" => (k_here; (with_reducible show wpAny _ _ (subscriptTail _ _ (Value.ref _) (Value.int _ _)) _ _ _); k_dflt (first | (refine' nt_item ?N ?hm ?k2 ?k3 ?k4 ?_ ?k6; (case N => k_asm); (case hm => lcg_sub); (case k2 => decide); (case k3 => decide); (case k4 => exact rfl); (case k6 => with_unfolding_all rfl); k_whole) | (refine' nt_itemK ?X ?F ?hl ?k2 ?k3 ?k4 ?_ ?k6 ?k7; (case F => k_asm); (case X => k_asm); (case hl => k_is); (case k2 => decide); (case k3 => decide); (case k4 => exact rfl); (case k6 => with_unfolding_all rfl); (case k7 => intro _; with_unfolding_all rfl); k_whole) | (refine' nt_itemT ?N ?hm ?k2 ?k3 ?k4 ?_ ?k6 ?k7; (case N => k_asm); (case hm => lcg_sub); (case k2 => decide); (case k3 => decide); (case k4 => exact rfl); (case k6 => with_unfolding_all rfl); (case k7 => intro _; with_unfolding_all rfl); k_whole)))
  k_with "subscriptTail Subscript Name ref int" => (k_here; (with_reducible show wpAny _ _ (subscriptTail _ _ (Value.ref _) (Value.int _ _)) _ _ _); k_dflt (first | (refine' nt_item ?N ?hm ?k2 ?k3 ?k4 ?_ ?k6; (case N => k_asm); (case hm => lcg_sub); (case k2 => decide); (case k3 => decide); (case k4 => exact rfl); (case k6 => with_unfolding_all rfl); k_whole) | (refine' nt_itemK ?X ?F ?hl ?k2 ?k3 ?k4 ?_ ?k6 ?k7; (case F => k_asm); (case X => k_asm); (case hl => k_is); (case k2 => decide); (case k3 => decide); (case k4 => exact rfl); (case k6 => with_unfolding_all rfl); (case k7 => intro _; with_unfolding_all rfl); k_whole) | (refine' nt_itemT ?N ?hm ?k2 ?k3 ?k4 ?_ ?k6 ?k7; (case N => k_asm); (case hm => lcg_sub); (case k2 => decide); (case k3 => decide); (case k4 => exact rfl); (case k6 => with_unfolding_all rfl); (case k7 => intro _; with_unfolding_all rfl); k_whole)))
  k_with "subscriptTail Subscript Constant ref int" => (k_here; (with_reducible show wpAny _ _ (subscriptTail _ _ (Value.ref _) (Value.int _ _)) _ _ _); k_dflt (first | (refine' nt_item ?N ?hm ?k2 ?k3 ?k4 ?_ ?k6; (case N => k_asm); (case hm => lcg_sub); (case k2 => decide); (case k3 => decide); (case k4 => exact rfl); (case k6 => with_unfolding_all rfl); k_whole) | (refine' nt_itemK ?X ?F ?hl ?k2 ?k3 ?k4 ?_ ?k6 ?k7; (case F => k_asm); (case X => k_asm); (case hl => k_is); (case k2 => decide); (case k3 => decide); (case k4 => exact rfl); (case k6 => with_unfolding_all rfl); (case k7 => intro _; with_unfolding_all rfl); k_whole) | (refine' nt_itemT ?N ?hm ?k2 ?k3 ?k4 ?_ ?k6 ?k7; (case N => k_asm); (case hm => lcg_sub); (case k2 => decide); (case k3 => decide); (case k4 => exact rfl); (case k6 => with_unfolding_all rfl); (case k7 => intro _; with_unfolding_all rfl); k_whole)))
  k_with "setItem ref int" => (k_here; k_dflt (refine' ki_set ?F ?N ?k2 ?k3 ?k4 ?U ?_; (case F => k_asm); (case N => k_asm); (case U => k_upd); (case k2 => decide); (case k3 => decide); (case k4 => exact rfl); k_whole); intro h' F' N'; (try k_sweep))
  k_with "eval Name" => (k_here; (with_reducible show wpAny _ _ (eval (Expr.Name _ _) (envOf _ _ _ _ _)) _ _ _); (with_reducible rename Fr _ _ _ _ => kF); k_dflt (first | (name_kind "local"; (refine' ld kF ?k2 ?_ ?a ?b ?c; (case k2 => exact rfl); (case a => kernel_rfl!); (case b => kernel_rfl!); (case c => decide +kernel)); k_whole) | (name_kind "globalImplicit"; (refine' name_K kF ?k1 ?k2 ?k3 ?_ ?a ?b ?c; (case k1 => k_asm); (case k2 => k_asm); (case k3 => k_is); (case a => kernel_rfl!); (case b => kernel_rfl!); (case c => decide +kernel); k_whole)) | (refine' name_B kF ?k1 ?k2 ?k3 ?k4 ?k5 ?_; (case k1 => k_asm); (case k2 => k_asm); (case k3 => k_is); (case k4 => boot_by_name); (case k5 => decide); k_whole)))
  k_with "compareOp NotEq ref ref" => (k_here; k_dflt (first | (with_reducible refine' ne_t3 ?N ?ha ?hb ?e1 ?e2 ?e3 ?hu ?_; (case N => k_asm); (case ha => lcg_sub); (case hb => lcg_sub); (case e1 => first | assumption | exact (Grey.h (by assumption) (by assumption) (by assumption)).1 | exact (Grey2.h (by assumption) (by assumption) (by assumption)).1 | rfl); (case e2 => first | assumption | exact (Grey.h (by assumption) (by assumption) (by assumption)).2.1 | exact (Grey2.h (by assumption) (by assumption) (by assumption)).2.1 | rfl); (case e3 => first | assumption | exact (Grey.h (by assumption) (by assumption) (by assumption)).2.2 | exact (Grey2.h (by assumption) (by assumption) (by assumption)).2.2 | rfl); (case hu => units_room)) | (with_reducible refine' ne_l3 ?N ?ha ?hb ?e1 ?e2 ?e3 ?hu ?_; (case N => k_asm); (case ha => lcg_sub); (case hb => lcg_sub); (case e1 => first | assumption | exact (Grey.h (by assumption) (by assumption) (by assumption)).1 | exact (Grey2.h (by assumption) (by assumption) (by assumption)).1 | rfl); (case e2 => first | assumption | exact (Grey.h (by assumption) (by assumption) (by assumption)).2.1 | exact (Grey2.h (by assumption) (by assumption) (by assumption)).2.1 | rfl); (case e3 => first | assumption | exact (Grey.h (by assumption) (by assumption) (by assumption)).2.2 | exact (Grey2.h (by assumption) (by assumption) (by assumption)).2.2 | rfl); (case hu => units_room)) | (with_reducible refine' ne_l0 ?N ?ha ?hb ?hu ?_; (case N => k_asm); (case ha => lcg_sub); (case hb => lcg_sub); (case hu => units_room))))
  k_with "compareOp Eq ref ref" => (k_here; k_dflt ((with_reducible refine' eq_l0 ?N ?ha ?hb ?hu ?_; (case N => k_asm); (case ha => lcg_sub); (case hb => lcg_sub); (case hu => units_room))))
  k_with "eval Call" => ((with_reducible show wpAny _ _ (eval (Expr.Call (Expr.Name _ _) _ [] _) (envOf _ _ _ _ _)) _ _ _); k_dflt (refine Call_ ?_))
  k_with "binaryOp Pow int int" => (k_here; k_dflt (first | (refine' nt_pow ?hp ?_; (case hp => first | assumption | omega)) | (refine' nt_pow1 ?hp ?_; (case hp => first | assumption | omega))))
  k_with "call ref" => (k_here; (with_reducible show wpAny _ _ (call (Value.ref 176) _) _ _ _); k_dflt (refine' Con.use (c_ycc _ _ _ _ _ _ _ _ _ _ ?hp ?hr ?hg ?hb) ?B ?F ?X ?N ?T ?hk ?hd ?hu ?_; (case F => k_asm); (case N => k_asm); (case hp => assumption); (case hr => omega); (case hg => omega); (case hb => omega); (case T => k_asm); (case X => k_asm); (case B => k_asm); (case hk => first | exact rfl | assumption); (case hd => ktr_room); (case hu => ktr_units); k_whole); intro D' y' cb' cr' ty' tb' tr' c' h' tk' hy' hcb' hcr' F' N' l1'; (try k_lt l1'); (try (have hYc : YccIs _ _ _ _ _ _ _ := ⟨by assumption, by assumption, by assumption, by assumption, hy', hcb', hcr'⟩; have hYk := hYc.ok; have hGy := Grey.of hYk; obtain ⟨yk1, yk2, yk3, yk4, yk5, yk6, yk7, yk8, yk9, yk10, yk11, yk12, -⟩ := hYk)); (try k_sweep))
  k_with "call ref" => (k_here; (with_reducible show wpAny _ _ (call (Value.ref 183) _) _ _ _); k_dflt (refine' Con.use (c_rgb _ _ _ _ _ _ _ _ _ _ ?hp ?hr ?hg ?hb) ?B ?F ?X ?N ?T ?hk ?hd ?hu ?_; (case F => k_asm); (case N => k_asm); (case hp => assumption); (case hr => omega); (case hg => omega); (case hb => omega); (case T => k_asm); (case X => k_asm); (case B => k_asm); (case hk => first | exact rfl | assumption); (case hd => ktr_room); (case hu => ktr_units); k_whole); intro D' y' cb' cr' ty' tb' tr' c' h' tk' hy' hcb' hcr' F' N' l1'; (try k_lt l1'); (try (have hBk := YccIs.back (by assumption) hy' hcb' hcr'; have hGb := Grey2.of hBk; obtain ⟨bk1, bk2, bk3, bk4, bk5, bk6, -⟩ := hBk)); (try k_sweep))
  k_with "call ref" => (k_here; (with_reducible show wpAny _ _ (call (Value.ref 190) _) _ _ _); k_dflt (refine' Con.use (c_ycck _ _ _ _ _ _ _ _ _ _ _ _ ?hp ?hr ?hg ?hb) ?B ?F ?X ?N ?T ?hk ?hd ?hu ?_; (case F => k_asm); (case N => k_asm); (case hp => assumption); (case hr => first | assumption | omega); (case hg => first | assumption | omega); (case hb => first | assumption | omega); (case T => k_asm); (case X => k_asm); (case B => k_asm); (case hk => first | exact rfl | assumption); (case hd => ktr_room); (case hu => ktr_units); k_whole); intro D' y' cb' cr' ty' tb' tr' tk9' c' h' tk' hy' hcb' hcr' F' N' l1'; (try k_lt l1'); (try (have hYc : YccIs _ _ _ _ _ _ _ := ⟨by assumption, by omega, by omega, by omega, hy', hcb', hcr'⟩; have hYk := hYc.ok; obtain ⟨yk1, yk2, yk3, yk4, yk5, yk6, yk7, yk8, yk9, yk10, yk11, yk12, -⟩ := hYk)); (try k_sweep))
  k_with "call ref" => (k_here; (with_reducible show wpAny _ _ (call (Value.ref 197) _) _ _ _); k_dflt (refine' Con.use (c_cmyk _ _ _ _ _ _ _ _ _ _ _ _ ?hp ?hr ?hg ?hb) ?B ?F ?X ?N ?T ?hk ?hd ?hu ?_; (case F => k_asm); (case N => k_asm); (case hp => assumption); (case hr => omega); (case hg => omega); (case hb => omega); (case T => k_asm); (case X => k_asm); (case B => k_asm); (case hk => first | exact rfl | assumption); (case hd => ktr_room); (case hu => ktr_units); k_whole); intro D' y' cb' cr' ty' tb' tr' tk9' c' h' tk' hy' hcb' hcr' F' N' l1'; (try k_lt l1'); (try (have hBk := YccIs.back (by assumption) hy' hcb' hcr'; obtain ⟨bk1, bk2, bk3, bk4, bk5, bk6, -⟩ := hBk)); (try k_sweep))
  unfold Con
  k_fill
  intro mean mg mb dp un gd cn cs aa ccd cl outer A₀ base h₀ L m s Q E B F X9 N T9 hk hd hu hret
  have hMid := mid_le hp
  refine wpAny_call ?_
  k_dflt k_enter
  k_steps
  all_goals (rename Fr h₀ L _ _ => hF; rename News h₀ L _ _ => hN)
  refine' hret _ _ _ _ _ _ _ _ _ _ ?e ?F ?N ?o
  case F => exact hF
  case N => exact nt_sub hN (by intro q hq; rcases List.mem_cons.mp hq with rfl | hq; exact List.mem_cons_self; repeat (first | exact hq | refine List.mem_cons_of_mem _ ?_))
  case e => exact ⟨by assumption, by assumption, by assumption⟩
  case o => (refine off1_of ?_; first | exact all_lt (by with_reducible assumption) (by repeat (first | exact Sub.refl | refine Sub.cons ?_)) | exact all_1 (by with_reducible assumption) (by repeat (first | exact Sub.refl | refine Sub.cons ?_)))
theorem c_law_cmyk (w : World) (news : Led) (l : Addr) (r g b k p : Int) (t t1 t2 t3 t4 t5 : Tok) (c : Nat) (hm : (l, listOf #[.int r t1, .int g t2, .int b t3, .int k t4] c) ∈ news) (hp : 2 ≤ p ∧ p ≤ 8) (hr : 0 ≤ r ∧ r ≤ 2 * mid p - 1) (hg : 0 ≤ g ∧ g ≤ 2 * mid p - 1) (hb : 0 ≤ b ∧ b ≤ 2 * mid p - 1) :
   Con w 311 [.str (Str.ofString "cmyk") t, .ref l, .int p t5] news 20 (fun h₀ L m Q => ∀ (D : Addr) (y cb cr : Int) (ty tb tr tk : Tok) (c : Nat) (h' : Heap) (tk' : Nat), Rycck p r g b k y cb cr k → Fr h₀ L h' m → News h₀ L h' ((D, listOf #[.int y ty, .int cb tb, .int cr tr, .int k tk] c) :: news) → LCg.Off1 D news → Q (.ref D) h' tk') := by
  unfold Con
  k_fill
  intro mean mg mb dp un gd cn cs aa ccd cl outer A₀ base h₀ L m s Q E B F X9 N T9 hk hd hu hret
  have hMid := mid_le hp
  refine wpAny_call ?_
  k_dflt k_enter
  k_steps
  all_goals (rename Fr h₀ L _ _ => hF; rename News h₀ L _ _ => hN)
  refine' hret _ _ _ _ _ _ _ _ _ _ _ ?e ?F ?N ?o
  case F => exact hF
  case N => exact nt_sub hN (by intro q hq; rcases List.mem_cons.mp hq with rfl | hq; exact List.mem_cons_self; repeat (first | exact hq | refine List.mem_cons_of_mem _ ?_))
  case e => exact ⟨⟨by assumption, by assumption, by assumption⟩, rfl⟩
  case o => (refine off1_of ?_; first | exact all_lt (by with_reducible assumption) (by repeat (first | exact Sub.refl | refine Sub.cons ?_)) | exact all_1 (by with_reducible assumption) (by repeat (first | exact Sub.refl | refine Sub.cons ?_)))
theorem c_law_grey (w : World) (news : Led) (l : Addr) (r g b k p : Int) (t t1 t2 t3 t4 t5 : Tok) (c : Nat) (hm : (l, listOf #[.int r t1, .int g t2, .int b t3, .int k t4] c) ∈ news) :
   Con w 311 [.str (Str.ofString "grey") t, .ref l, .int p t5] news 20 (fun h₀ L m Q => ∀ (D : Addr) (ty : Tok) (c : Nat) (h' : Heap) (tk' : Nat), Fr h₀ L h' m → News h₀ L h' ((D, listOf #[.int r ty] c) :: news) → LCg.Off1 D news → Q (.ref D) h' tk') := by
  unfold Con
  k_fill
  intro mean mg mb dp un gd cn cs aa ccd cl outer A₀ base h₀ L m s Q E B F X9 N T9 hk hd hu hret
  refine wpAny_call ?_
  k_dflt k_enter
  k_steps
  all_goals (rename Fr h₀ L _ _ => hF; rename News h₀ L _ _ => hN)
  refine' hret _ _ _ _ _ ?F ?N ?o
  case F => exact hF
  case N => exact nt_sub hN (by intro q hq; rcases List.mem_cons.mp hq with rfl | hq; exact List.mem_cons_self; repeat (first | exact hq | refine List.mem_cons_of_mem _ ?_))
  case o => (refine off1_of ?_; first | exact all_lt (by with_reducible assumption) (by repeat (first | exact Sub.refl | refine Sub.cons ?_)) | exact all_1 (by with_reducible assumption) (by repeat (first | exact Sub.refl | refine Sub.cons ?_)))
end
-- NtExc
section
open PySem PySem.W PySem.Spec PySem.Calls
/-- the line of bases of the class that the picture raises -/
abbrev bmR : List Value := [.ref 38, .type "Exception", .type "BaseException", .type "object"]
abbrev clsR (nm q : Str) (bs : List Value) (hdct : Bool) (sn : List Str) (sub : List Value) (ab : Bool) (col : Option Bool) (dd : Option Addr) (k0 k1 k2 k3 k5 : Option Value) : Obj := excClassObj nm q 51 50 bs bmR hdct sn sub ab col dd k0 k1 k2 k3 k5 "Exception.__new__"
section
variable {prog : Program} {w : World} {A : Around} {E : Value → Shared → Prop} {h : Heap} {g : Array GenState} {d : Drawn} {t : Nat} {os : OsState}
variable {nm q : Str} {bs : List Value} {hdct : Bool} {sn : List Str} {sub : List Value} {ab : Bool} {col : Option Bool} {dd : Option Addr} {k0 k1 k2 k3 k5 : Option Value}
theorem r_isNew {rest : List Value} {Q : Unit → Shared → Prop} (hC : h.get? 51 = some (clsR nm q bs hdct sn sub ab col dd k0 k1 k2 k3 k5)) (hq : Q () ⟨h, g, d, t, os⟩) :
    wpAny (model prog w) A (checkBuiltinCall "Exception.__new__" ⟨.ref 51 :: rest, []⟩) Q E ⟨h, g, d, t, os⟩ := by
  have F := PySem.F.excBase_Exception
  have hB : (Value.ref 51 :: bmR).contains (.type "Exception") = true := by decide
  have hS := F.noStar
  simp only [checkBuiltinCall, F.newKind, F.newSplit, F.newRow]
  repeat (first | refine wpAny_loadPart_at hC ?_ | (refine wpAny_isSubtype_exc hC ?_; rw [hB]) | refine wpAny_staticBase_exc hC ?_ | refine wpAny_madeBy_exc hC ?_ | simp only [bne_self_eq_false, Bool.false_eq_true, if_false] | wp_step)
  exact hq
theorem r_new {R : Result → Shared → Prop} {rest : List Value} (hC : h.get? 51 = some (clsR nm q bs hdct sn sub ab col dd k0 k1 k2 k3 k5))
    (hq : R (.ok (.ret (.ref (h.objs.size + 1)))) ⟨(h.push { cls := .type "tuple", data := .seq rest.toArray }).push { cls := .ref 51, data := .fields #[.ref h.objs.size, .none, .none, .none, .bool false, .none] }, g, d, t, os⟩) (hrest : rest.length ≤ sizeLine) :
    codeAny (model prog w) A (.builtin "Exception.__new__" ⟨.ref 51 :: rest, []⟩) R ⟨h, g, d, t, os⟩ := by
  have F := PySem.F.excBase_Exception
  have hends := F.ends
  have hcB : (Value.ref 51 :: bmR).contains (.type "Exception") = true := by decide
  have hcA : (Value.ref 51 :: bmR).contains (.type "AttributeError") = false := by decide
  have hcN : (Value.ref 51 :: bmR).contains (.type "NameError") = false := by decide
  refine codeAny_builtinAt F.entry ?_
  unfold Builtin.«BaseException.__new__»
  refine PySem.wpAt_bind ?_
  show PySem.wpAt _ _ _ (stack >>= _) _ _ _
  refine PySem.wpAt_bind (PySem.wpAt_stack fun p below => PySem.wpAt_of_wpAny ?_)
  wp_walk
  refine PySem.wpAt_of_wpAny ?_
  rw [F.owner]
  repeat (first | with_reducible refine wpAny_madeHere_exc F.canon hC ?_ | with_reducible refine wpAny_loadPart_at hC ?_ | (with_reducible refine wpAny_isSubtype_exc hC ?_; first | rw [hcB] | rw [hcA] | rw [hcN]) | wp_step)
  show R _ _
  rw [Heap.size_push]
  exact hq
theorem r_isInit {e : Addr} {oe : Obj} {rest : List Value} {Q : Unit → Shared → Prop} (hC : h.get? 51 = some (clsR nm q bs hdct sn sub ab col dd k0 k1 k2 k3 k5)) (he : h.get? e = some oe) (hcls : oe.cls = .ref 51) (hq : Q () ⟨h, g, d, t, os⟩) :
    wpAny (model prog w) A (checkBuiltinCall "Exception.__init__" ⟨.ref e :: rest, []⟩) Q E ⟨h, g, d, t, os⟩ := by
  have F := PySem.F.excBase_Exception
  have hcB : (Value.ref 51 :: bmR).contains (.type "Exception") = true := by decide
  have hshort := F.noStar
  simp only [checkBuiltinCall, F.initKind, F.initSplit, F.initRow]
  repeat (first | (with_reducible refine wpAny_loadPart_at he ?_; rw [hcls]) | with_reducible refine wpAny_loadPart_at hC ?_ | (with_reducible refine wpAny_isSubtype_exc hC ?_; rw [hcB]) | wp_step)
  refine wpAny_onRaise ?_
  rw [show ∀ (a b : String) (n : Nat), Bind.check ⟨.positional, "*", "Exception", .self, [⟨"args", .varPos, false⟩]⟩ a b n (List.map (fun x => x.fst) ({ pos := Value.ref e :: rest } : Args).kw) = pure () from fun a b n => check_star_args _ _ _ _ _ _]
  exact wpAny_pure hq
end
end
-- NtFly
section
open PySem PySem.W PySem.Spec PySem.Calls
/-- an exception on its way, of which P is known -/
structure Fly (base : Heap) (l : List Env) (e : Addr) (P : Obj → Prop) (fl : Value) (h : Heap) : Prop where
  stays : base.StaysIn h
  new : base.get? e = none
  frames : h.FunFrames base l
  there : ∃ oe vs T oT ts, h.get? e = some oe ∧ P oe ∧ oe.data = .fields vs ∧ vs[1]? = some (.ref T) ∧ base.get? T = none ∧ T ≠ e ∧ h.get? T = some oT ∧ oT.data = .fields ts ∧ ts[3]? = some fl
theorem Fly.tail {base h : Heap} {env : Env} {l : List Env} {e : Addr} {P : Obj → Prop} {fl : Value} (x : Fly base (env :: l) e P fl h) : Fly base l e P fl h := ⟨x.stays, x.new, x.frames.2.2, x.there⟩
theorem Fly.obj {base h : Heap} {l : List Env} {e : Addr} {P : Obj → Prop} {fl : Value} (x : Fly base l e P fl h) : ∃ oe vs, h.get? e = some oe ∧ P oe ∧ oe.data = .fields vs := by
  obtain ⟨oe, vs, _, _, _, a, b, c, _⟩ := x.there
  exact ⟨oe, vs, a, b, c⟩
def Hard (P : Obj → Prop) : Prop := ∀ o f, P o → P (Obj.mapFields f o)
section
variable {M : Model} {A : Around} {E : Value → Shared → Prop} {s : Shared} {base : Heap} {env : Env} {outer : List Env} {L e : Addr} {P : Obj → Prop}
theorem fly_land {l : List Env} {fl : Value} {Q : Unit → Shared → Prop} (x : Fly base l e P fl s.heap) (h : ∀ h', Fly base l e P .none h' → s.heap.UpToSlots h' → Q () { s with heap := h' }) :
    wpAny M A (setFlight (.ref e) none) Q E s := by
  obtain ⟨hB, hen, hl, oe, vs, T, oT, ts, he, hP, hd, h1, hT₀, hTe, hT, hdT, h3⟩ := x
  have far : ∀ b, b ≠ T → (s.heap.update T (Obj.mapFields (·.setIfInBounds 3 ((none : Option Addr).elim Value.none fun f => rawInt f)))).get? b = s.heap.get? b := fun b hb => Heap.get?_update_other _ _ (Ne.symm hb)
  have off : ∀ b o, s.heap.get? b = some o → (∀ ws, o.data ≠ .fields ws) → b ≠ T := fun b o hb hn q => by
    subst q
    rw [hT] at hb
    cases hb
    exact hn ts hdT
  have h3' : 3 < ts.size := (Array.getElem?_eq_some_iff.mp h3).1
  unfold setFlight
  refine wpAny_bind (wpAny_field he hd h1 ?_)
  rw [if_pos (show (Value.ref T != Value.none) = true from by simp)]
  refine wpAny_setField hT hdT h3' (h _ ⟨fun b o hb => ?_, hen, ?_, oe, vs, T, _, _, (far e (Ne.symm hTe)).trans he, hP, hd, h1, hT₀, hTe, Heap.get?_update_self _ hT (Obj.isFreed_of_fields (Obj.data_mapFields hdT _)), Obj.data_mapFields hdT _, by simp [h3']⟩ fun b o hb hn => ⟨o.slots, (far b (off b o hb hn)).trans hb⟩)
  · refine (far b fun q => ?_).trans (hB b o hb)
    rw [q, hT₀] at hb
    cases hb
  · exact hl.of_keeps fun b o hb hn => ⟨o, (far b (off b o hb hn)).trans hb, rfl⟩
theorem fly_entry (hP : Hard P) {oe : Obj} {vs : Array Value} {head : Value} {nx : Bool} {Q : Unit → Shared → Prop} (hfr : A.frames = some (env :: outer)) (hl : s.heap.FunFrames base (env :: outer)) (hf : env.frame = some L) (hB : base.StaysIn s.heap) (hen : base.get? e = none)
    (he : s.heap.get? e = some oe) (hp : P oe) (hd : oe.data = .fields vs) (h1 : 1 < vs.size) (h : ∀ h', Fly base (env :: outer) e P (rawInt L) h' → s.heap.UpToSlots h' → Q () { s with heap := h' }) :
    wpAny M A (do let a ← frameOf env; let pl ← entryPlaceOf L nx; let b ← EntryCells.newEntry head a .none (rawInt L) .none pl; setField (.ref e) 1 b) Q E s := by
  have hef : e ∉ (env :: outer).filterMap (·.frame) := fun hm => by
    obtain ⟨_, o, ho, hn⟩ := hl.mem hm
    rw [he] at ho
    cases ho
    exact hn vs hd
  refine wpAny_bind (wpAny_frameOf_fun hfr hl hf fun h₁ sl₁ => ?_)
  refine wpAny_bind (wpAny_entryPlaceOf fun pl hpl => ?_)
  unfold EntryCells.newEntry newFields
  refine wpAny_bind (wpAny_newObj_type ?_ (hpl.sizeOk5 _ _ _ _ _))
  generalize htr : ([head, Value.ref L, Value.none, rawInt L, Value.none] ++ (if pl.isEmpty then List.replicate 6 Value.none else pl)).toArray = tr
  have h3 : tr[3]? = some (rawInt L) := by
    rw [← htr]
    first | (simp; done) | (rcases hpl with rfl | ⟨_, _, _, _, _, _, _, rfl⟩ <;> simp)
  have e₁ : h₁.get? e = some oe := (sl₁.2.1 e hef).trans he
  have B₁ : base.StaysIn h₁ := fun b o hb => (sl₁.2.1 b fun hm => by
    rw [(hl.mem hm).1] at hb
    cases hb).trans (hB b o hb)
  have e₂ := Heap.get?_push_of_some (h := h₁) { cls := .type "traceback", dict := none, data := .fields tr } e₁
  have hTe : h₁.objs.size ≠ e := Nat.ne_of_gt (Heap.lt_size e₁)
  have keep : ∀ b o, b ≠ e → h₁.get? b = some o → ((h₁.push { cls := .type "traceback", dict := none, data := .fields tr }).update e (Obj.mapFields (·.setIfInBounds 1 (Value.ref h₁.objs.size)))).get? b = some o := fun b o hbe hb => by
    rw [Heap.get?_update_other _ _ (Ne.symm hbe)]
    exact Heap.get?_push_of_some _ hb
  have off : ∀ b o, s.heap.get? b = some o → (∀ ws, o.data ≠ .fields ws) → b ≠ e := fun b o hb hn q => by
    subst q
    rw [he] at hb
    cases hb
    exact hn vs hd
  refine wpAny_setField e₂ hd h1 (h _ ⟨fun b o hb => keep b o (fun q => by rw [q, hen] at hb; cases hb) (B₁ b o hb), hen, hl.of_keeps fun b o hb hn => ?_, _, _, h₁.objs.size, _, tr, Heap.get?_update_self _ e₂ (Obj.isFreed_of_fields (Obj.data_mapFields hd _)), hP _ _ hp, Obj.data_mapFields hd _, by simp [h1], B₁.fresh, hTe, (Heap.get?_update_other _ _ (Ne.symm hTe)).trans (Heap.get?_push_size h₁ rfl), rfl, h3⟩ fun b o hb hn => ?_)
  · obtain ⟨sl, hs⟩ := sl₁.2.2 b o hb
    exact ⟨_, keep b _ (off b o hb hn) hs, rfl⟩
  · obtain ⟨sl, hs⟩ := sl₁.2.2 b o hb
    exact ⟨sl, keep b _ (off b o hb hn) hs⟩
/-- the frame in which it was raised is left -/
theorem fly_first (hP : Hard P) {oe : Obj} {vs : Array Value} {Q : Unit → Shared → Prop} (hfr : A.frames = some (env :: outer)) (hl : s.heap.FunFrames base (env :: outer)) (hf : env.frame = some L) (hB : base.StaysIn s.heap) (hen : base.get? e = none)
    (he : s.heap.get? e = some oe) (hp : P oe) (hd : oe.data = .fields vs) (h1 : vs[1]? = some .none) (h : ∀ h', Fly base outer e P .none h' → s.heap.UpToSlots h' → Q () { s with heap := h' }) : wpAny M A (leaving env (.ref e)) Q E s := by
  unfold leaving noteFrame
  simp only [hf]
  refine wpAny_bind (wpAny_bind (wpAny_field he hd h1 ?_))
  rw [if_neg (by decide)]
  exact fly_entry hP hfr hl hf hB hen he hp hd (Array.getElem?_eq_some_iff.mp h1).1 fun h₁ x₁ u₁ => fly_land x₁ fun h₂ x₂ u₂ => h h₂ x₂.tail (u₁.trans u₂)
/-- it is looked at in the frame that catches it -/
theorem fly_note (hP : Hard P) {Q : Unit → Shared → Prop} (hfr : A.frames = some (env :: outer)) (hf : env.frame = some L) (x : Fly base (env :: outer) e P .none s.heap)
    (h : ∀ h', Fly base (env :: outer) e P (rawInt L) h' → s.heap.UpToSlots h' → Q () { s with heap := h' }) : wpAny M A (noteFrame (.ref e) env) Q E s := by
  obtain ⟨hB, hen, hl, oe, vs, T, oT, ts, he, hp, hd, h1, hT₀, hTe, hT, hdT, h3⟩ := x
  have far : ∀ b, b ≠ T → (s.heap.update T (Obj.mapFields (·.setIfInBounds 3 Value.none))).get? b = s.heap.get? b := fun b hb => Heap.get?_update_other _ _ (Ne.symm hb)
  have off : ∀ b o, s.heap.get? b = some o → (∀ ws, o.data ≠ .fields ws) → b ≠ T := fun b o hb hn q => by
    subst q
    rw [hT] at hb
    cases hb
    exact hn ts hdT
  unfold noteFrame
  simp only [hf]
  refine wpAny_bind (wpAny_field he hd h1 ?_)
  rw [if_pos (show (Value.ref T != Value.none) = true from by simp)]
  refine wpAny_bind (wpAny_field hT hdT h3 ?_)
  rw [if_neg (show ¬ ((Value.none == rawInt L) = true) from by simp [rawInt])]
  refine wpAny_bind (wpAny_setField hT hdT (Array.getElem?_eq_some_iff.mp h3).1 ?_)
  exact fly_entry hP hfr (hl.of_keeps fun b o hb hn => ⟨o, (far b (off b o hb hn)).trans hb, rfl⟩) hf
    (fun b o hb => (far b fun q => by rw [q, hT₀] at hb; cases hb).trans (hB b o hb)) hen ((far e (Ne.symm hTe)).trans he) hp hd (Array.getElem?_eq_some_iff.mp h1).1
    fun h₁ x₁ u₁ => h h₁ x₁ fun b o hb hn => u₁ b o ((far b (off b o hb hn)).trans hb) hn
end
end
-- NtExc2
section
open PySem PySem.W PySem.Spec PySem.Calls
open Builtin Builtin.ObjectAttr
abbrev excO (d : Option Addr) (t : Addr) : Obj := { cls := .ref 51, dict := d, data := .fields #[.ref t, .none, .none, .none, .bool false, .none] }
noncomputable abbrev KK (w : World) : Frag := Mine.pre.heap_1 w.params
theorem k_cls {w : World} : ∃ nm q bs hdct sn sub ab col dd k0 k1 k2 k3 k5, (KK w).lookup 51 = some (clsR nm q bs hdct sn sub ab col dd k0 k1 k2 k3 k5) ∧ hdct = true := ⟨_, _, _, _, _, _, _, _, _, _, _, _, _, _, rfl, rfl⟩
theorem k_init {w : World} : findIn (KK w) (.ref 51) "__init__" = some (some (.ref 35)) := by rfl
theorem k_sa {w : World} : findIn (KK w) (.ref 51) "__setattr__" = some (some (.builtin "object.__setattr__")) := by rfl
theorem k_ga {w : World} : findIn (KK w) (.ref 51) "__getattribute__" = some (some (.builtin "BaseException.__getattribute__")) := by rfl
theorem k_gh {w : World} : findIn (KK w) (.ref 51) "__getattr__" = some none := by rfl
theorem k_msg {w : World} : findIn (KK w) (.ref 51) "message" = some none := by rfl
theorem k_fn {w : World} : ∃ o, (KK w).lookup 35 = some o ∧ o.cls = .type "function" := ⟨_, rfl, rfl⟩
theorem k_cd {w : World} : ∃ cd, clsIn (KK w) 51 = some cd ∧ cd.mro = .ref 51 :: bmR ∧ cd.hasDict = true := ⟨_, rfl, rfl, rfl⟩
section
variable {prog : Program} {w : World} {A : Around} {E : Value → Shared → Prop} {h : Heap} {g : Array GenState} {d : Drawn} {t : Nat} {os : OsState}
theorem r_call {rest : List Value} {Q : Value → Shared → Prop} (X : (KK w).In h) (hrest : rest.length ≤ sizeLine)
    (hq : ∀ h' e, Heap.MadeExcOf h h' e (.ref 51) rest → wpAny (model prog w) (A.under (.builtin "type.__call__" ⟨.ref 51 :: rest, []⟩)) (call (.ref 35) (.ref e :: rest)) (fun r s' => r = .none ∧ Q (.ref e) s') E ⟨h', g, d, t, os⟩) :
    wpAny (model prog w) A (call (.ref 51) rest) Q E ⟨h, g, d, t, os⟩ := by
  have F := PySem.F.excBase_Exception
  obtain ⟨nm, q, bs, hdct, sn, sub, ab, col, dd, k0, k1, k2, k3, k5, hK, rfl⟩ := k_cls (w := w)
  have hC := X _ _ hK
  obtain ⟨oI, hoI, hfc⟩ := k_fn (w := w)
  have f1 := tc_lookup
  have f2 := tc_bind (.ref 51)
  have hT : (⟨h, g, d, t, os⟩ : Shared).TypeIs (.ref 51) "type" := ⟨_, hC, rfl⟩
  refine wpAny_call (codeAny_of_tree ?_)
  show wpAny _ _ (callAny (.ref 51) _) _ _ _
  repeat (any_goals (first | assumption | with_reducible refine wpAny_loadPart_at hC ?_ | wp_step))
  refine ⟨rfl, ?_⟩
  refine codeAny_call_builtin_at (Code.quiet_builtin _ (by decide +kernel)) entry_typeCall (wpAny_check_type_call_sub hC ?_)
  repeat (first | with_reducible refine wpAny_loadPart_at hC ?_ | with_reducible refine wpAny_madeBy_exc hC ?_ | wp_step)
  refine codeAny_call_builtin_code (Code.quiet_builtin _ F.quiet) (r_isNew hC ?_)
  refine r_new hC ?_ hrest
  show wpAny _ _ _ _ _ _
  have hk : ∀ b o, h.get? b = some o → ((h.push { cls := .type "tuple", data := .seq rest.toArray }).push { cls := .ref 51, data := .fields #[.ref h.objs.size, .none, .none, .none, .bool false, .none] }).get? b = some o := fun b o e => Heap.get?_push_of_some _ (Heap.get?_push_of_some _ e)
  have hC₁ := hk _ _ hC
  have hfI := hk _ _ (X _ _ hoI)
  have X₁ : (KK w).In ((h.push { cls := .type "tuple", data := .seq rest.toArray }).push { cls := .ref 51, data := .fields #[.ref h.objs.size, .none, .none, .none, .bool false, .none] }) := fun a o e => hk _ _ (X a o e)
  have hget : ((h.push { cls := .type "tuple", data := .seq rest.toArray }).push { cls := .ref 51, data := .fields #[.ref h.objs.size, .none, .none, .none, .bool false, .none] }).get? (h.objs.size + 1) = some { cls := .ref 51, data := .fields #[.ref h.objs.size, .none, .none, .none, .bool false, .none] } := by heap_get
  have hcC : (Value.ref 51 :: bmR).contains (.ref 51) = true := by decide
  unfold isInstance
  repeat (first | (with_reducible refine wpAny_loadPart_at hget ?_; try dsimp only) | (refine wpAny_isSubtype_exc hC₁ ?_; rw [hcC]) | wp_step)
  show wpAny _ _ (typeLookup (.ref 51) _) _ _ _
  refine (looks_findIn X₁ k_init).at ?_
  refine wpAny_holding (wpAny_bind ?_)
  unfold bindSpecial
  refine wpAny_bind (wpAny_typeOf (T := "function") ⟨_, hfI, hfc⟩ ?_)
  rw [if_pos (by decide)]
  refine wpAny_pure (wpAny_bind (wpAny_mono (hq _ (h.objs.size + 1) ⟨hk, Heap.get?_none_of_le (Nat.le_succ _), h.objs.size, hget, Heap.get?_none_of_le (Nat.le_refl _), ?_⟩) (fun r s' hr => ?_) fun _ _ x => x))
  · exact Heap.get?_push_of_some _ (Heap.get?_push_at rfl rfl)
  · obtain ⟨rfl, hQ⟩ := hr
    wp_walk
    exact hQ
end
end
-- NtExc3
section
open PySem PySem.W PySem.Spec PySem.Calls PyProof.Rows
open Builtin Builtin.ObjectAttr
section
variable {prog : Program} {w : World} {A : Around} {E : Value → Shared → Prop} {s : Shared} {h₀ : Heap} {L e : Addr} {m : Str → Option Value} {all rest : Led} {od : Option Addr} {t : Addr}
theorem nt_push {o : Obj} {news : Led} {h : Heap} (F : Fr h₀ L h m) (N : News h₀ L h news) : Fr h₀ L (h.push o) m ∧ News h₀ L (h.push o) news := ⟨F.push _, fun p hp => ⟨Heap.get?_push_of_some _ (N p hp).1, (N p hp).2⟩⟩
theorem r_init {v : Value} {Q : Value → Shared → Prop} (F : Fr h₀ L s.heap m) (X₀ : (KK w).In h₀) (N : News h₀ L s.heap all) (P : Pick (e, excO od t) all rest) (off : ∀ p ∈ rest, p.1 ≠ e)
    (h : ∀ h' t', Fr h₀ L h' m → News h₀ L h' ((e, excO od t') :: rest) → Q .none { s with heap := h' }) : wpAny (model prog w) A (call (.builtin "Exception.__init__") [.ref e, v]) Q E s := by
  have G := PySem.F.excBase_Exception
  have N₁ := nt_pick N P
  obtain ⟨hp, g, d, tk, os⟩ := s
  obtain ⟨nm, q, bs, hdct, sn, sub, ab, col, dd, k0, k1, k2, k3, k5, hK, rfl⟩ := k_cls (w := w)
  have hC := F.keep _ _ (X₀ _ _ hK)
  have he := (N₁ _ (.head _)).1
  obtain ⟨F₂, N₂⟩ := nt_push (o := { cls := .type "tuple", data := .seq [v].toArray }) F N₁
  have he₂ := (N₂ _ (.head _)).1
  obtain ⟨U1, U2⟩ := PySem.W.news_upd (pre := []) (f := Obj.mapFields (·.setIfInBounds 0 (.ref hp.objs.size))) F₂ N₂ (fun _ z => nomatch z) off (o' := excO od hp.objs.size) rfl rfl
  refine wpAny_call (codeAny_call_builtin G.init.plain G.initEntry (r_isInit hC he rfl ?_))
  unfold Builtin.«BaseException.__init__»
  dsimp only
  rw [if_neg (by simp)]
  unfold newTuple Builtin.BaseException.bexcPut
  refine wpAny_bind (wpAny_newObj_type (wpAny_bind (wpAny_bind (wpAny_field he₂ rfl rfl (wpAny_bind (wpAny_setField he₂ rfl (by show 0 < 6; decide) ?_))))) (by show 1 ≤ sizeLine; exact Nat.le_of_ble_eq_true rfl))
  exact wpAny_letGo (wpAny_pure (h _ _ U1 U2))
end
end
-- NtExc4
section
open PySem PySem.W PySem.Spec PySem.Calls PyProof.Rows
open Builtin Builtin.ObjectAttr
abbrev msgD (w : World) (k : Tok) (v : Value) : Obj := dictOf [{ hash := PyData.keyHash w.params (Str.ofString "message"), key := .str (Str.ofString "message") k, val := v }] 1
section
variable {prog : Program} {w : World} {A : Around} {E : Value → Shared → Prop} {s : Shared} {h₀ : Heap} {L e : Addr} {m : Str → Option Value} {all rest : Led} {t : Addr}
theorem r_inst0 {h : Heap} (he : h.get? e = some (excO none t)) : PySem.W.InstAt h e (excO none t) 51 none := ⟨he, rfl, rfl, trivial⟩
theorem r_instD {h : Heap} {dx : Addr} {o : Obj} (he : h.get? e = some (excO (some dx) t)) (hd : h.get? dx = some o) : PySem.W.InstAt h e (excO (some dx) t) 51 (some o) := ⟨he, rfl, rfl, hd⟩
theorem r_store {v : Value} {Q : Unit → Shared → Prop} (F : Fr h₀ L s.heap m) (X₀ : (KK w).In h₀) (N : News h₀ L s.heap all) (P : Pick (e, excO none t) all rest) (off : ∀ p ∈ rest, p.1 ≠ e)
    (h : ∀ h' tk' dx k, Fr h₀ L h' m → News h₀ L h' ((e, excO (some dx) t) :: (dx, msgD w k v) :: rest) → (∀ p ∈ (e, excO none t) :: rest, p.1 < dx) → Q () { s with heap := h', toks := tk' }) : wpAny (model prog w) A (setAttr (.ref e) (Str.ofString "message") v) Q E s := by
  have N₁ := nt_pick N P
  have X : (KK w).In s.heap := X₀.keeps F.keep
  have he := (N₁ _ (.head _)).1
  have I := r_inst0 he
  refine set_plain X I k_sa ?_
  obtain ⟨hp, g, d, tk, os⟩ := s
  dsimp only at he X I F N₁
  have SF := PySem.F.store_object
  obtain ⟨cd, hc, hmro, hdict⟩ := k_cd (w := w)
  have sub : Looks (model prog w) hp (isInstance (.ref e) (.type "object")) true := I.type.andThen (looks_mroIn X (by unfold mroIn; rw [hc, Option.bind_some, hmro]; decide))
  refine codeAny_call_builtin SF.slot.plain SF.entry (@check_slot (model prog w) _ _ _ "object.__setattr__" "object" "__setattr__" (.ref e) [.str (Str.ofString "message") tk, v] [] _ SF.kind SF.split sub (SF.args (.ref e) (.str (Str.ofString "message") tk) v) ?_)
  have hm : Looks (model prog w) hp (mroOf (.ref 51)) cd.mro := (looks_clsIn X hc).andThen .now
  rw [osa_eq, refuse_eq]
  refine wpAny_bind (wpAny_bind (I.type.here (wpAny_bind (hm.here ?_))))
  rw [hmro, refuseLoop_ref, refuseLoop_ref, PySem.F.store_Exception.passes]
  refine wpAny_pure (wpAny_bind (I.type.here (wpAny_bind ((looks_findIn X k_msg).here (wpAny_bind ?_)))))
  refine wpAny_pure ?_
  refine wpAny_bind (wpAny_pure (wpAny_bind (wpAny_bind (wpAny_loadPart he (wpAny_bind ((looks_clsIn X hc).here ?_))))))
  rw [hdict]
  refine wpAny_bind (wpAny_alloc' ?_)
  obtain ⟨F₂, N₂⟩ := nt_push (o := { cls := .type "dict", data := .dict #[] }) F N₁
  have he₂ := (N₂ _ (.head _)).1
  refine wpAny_bind (wpAny_update' he₂ ?_)
  obtain ⟨U1, U2⟩ := PySem.W.news_upd (pre := []) (f := fun o => { o with dict := some hp.objs.size }) F₂ N₂ (fun _ z => nomatch z) off (o' := excO (some hp.objs.size) t) rfl rfl
  have hL : (hp.push { cls := .type "dict", data := .dict #[] }).objs.size = hp.objs.size + 1 := Heap.size_push ..
  have lt₁ : ∀ p ∈ (e, excO none t) :: rest, p.1 < hp.objs.size := fun p hq => Heap.lt_size (N₁ p hq).1
  have nD : h₀.get? hp.objs.size = none := next_is_new F
  have nL : L < hp.objs.size := F.ns.lt
  have ne : e < hp.objs.size := lt₁ _ (.head _)
  have gD : ((hp.push { cls := .type "dict", data := .dict #[] }).update e fun o => { o with dict := some hp.objs.size }).get? hp.objs.size = some (dictOf [] 0) :=
    (Heap.get?_update_ne _ _ _ _ (Nat.ne_of_gt ne)).trans (Heap.get?_push_at rfl rfl)
  have N₃ : News h₀ L ((hp.push { cls := .type "dict", data := .dict #[] }).update e fun o => { o with dict := some hp.objs.size }) ([(e, excO (some hp.objs.size) t)] ++ (hp.objs.size, dictOf [] 0) :: rest) := fun p hq => by
    rcases List.mem_cons.mp hq with rfl | hq
    · exact U2 _ (.head _)
    rcases List.mem_cons.mp hq with rfl | hq
    · exact ⟨gD, Nat.ne_of_gt nL, nD⟩
    · exact U2 _ (.tail _ hq)
  refine wpAny_pure ?_
  obtain ⟨V1, V2⟩ := PySem.W.news_upd (f := Obj.putName (Str.ofString "message") (PyData.keyHash w.params (Str.ofString "message")) (.str (Str.ofString "message") (tk + 1)) v) U1 N₃
    (fun p hq => by rw [List.mem_singleton.mp hq]; exact Nat.ne_of_lt ne) (fun p hq => Nat.ne_of_lt (lt₁ _ (.tail _ hq))) (o' := msgD w (tk + 1) v) (by rw [putName_dict]; rfl) rfl
  refine wpAny_bind (wpAny_pure (wpAny_bind (wpAny_bind (wpAny_bind (wpAny_askSetting (wpAny_pure (wpAny_bind (wpAny_mkText (wpAny_bind (wpAny_loadPart gD ?_))))))))))
  dsimp only
  rw [if_neg (by decide)]
  refine wpAny_updatePart gD ?_
  refine wpAny_bind (wpAny_lookBehind (V2 (hp.objs.size, msgD w (tk + 1) v) (by simp)).1 (pastItsLine_dict (Nat.le_of_ble_eq_true rfl)) ?_)
  exact wpAny_pure (h _ _ _ _ V1 V2 lt₁)
end
end
-- NtExc5
section
open PySem PySem.W PySem.Spec PySem.Calls
open Builtin Builtin.ObjectAttr
section
variable {prog : Program} {w : World} {A : Around} {E : Value → Shared → Prop} {h : Heap} {g : Array GenState} {d : Drawn} {t : Nat} {os : OsState} {e dx : Addr} {o : Obj} {k : Tok} {v : Value}
theorem r_isGa {nameV : Value} {Q : Unit → Shared → Prop} (X : (KK w).In h) (he : h.get? e = some o) (hc : o.cls = .ref 51) (hq : Q () ⟨h, g, d, t, os⟩) :
    wpAny (model prog w) A (checkBuiltinCall "BaseException.__getattribute__" ⟨[.ref e, nameV], []⟩) Q E ⟨h, g, d, t, os⟩ := by
  obtain ⟨nm, q, bs, hdct, sn, sub, ab, col, dd, k0, k1, k2, k3, k5, hK, rfl⟩ := k_cls (w := w)
  have hC := X _ _ hK
  have hk : builtinKind "BaseException.__getattribute__" = some .slot := by decide +kernel
  have hsplit : splitId "BaseException.__getattribute__" = some ("BaseException", "__getattribute__") := by decide +kernel
  have hcB : (Value.ref 51 :: bmR).contains (.type "BaseException") = true := by decide
  have ha := PySem.F.args_bexc_ga (.ref e) nameV
  simp only [checkBuiltinCall, hk, hsplit]
  refine wpAny_bind ?_
  unfold isInstance
  repeat (first | (with_reducible refine wpAny_loadPart_at he ?_; rw [hc]) | (with_reducible refine wpAny_isSubtype_exc hC ?_; rw [hcB]) | wp_step)
  exact hq
theorem r_message {ex : Bool} {Q : Value → Shared → Prop} (X : (KK w).In h) (I : PySem.W.InstAt h e o 51 (some (msgD w k v))) (hf : findObj (KK w) 51 (some (msgD w k v)) (Str.ofString "message") = some (.value v)) (hh : handedOut v = pure v) (hq : Q v ⟨h, g, d, t + 1, os⟩) :
    wpAny (model prog w) A (getAttr (.ref e) (Str.ofString "message") ex) Q E ⟨h, g, d, t, os⟩ := by
  have FA := PySem.F.attr_Exception
  have f3 := FA.ga.bind (.ref e)
  have he := I.at_
  have hc := I.cls
  have hx0 : (ex && onTheHeap (Value.builtin "BaseException.__getattribute__")) = false := by cases ex <;> rfl
  have hx2 : (Value.builtin "BaseException.__getattribute__" == Value.builtin "object.__getattribute__") = false := by decide +kernel
  have hx1 : (onTheHeap (Value.ref 51) && Value.builtin "BaseException.__getattribute__" == Value.builtin "object.__getattribute__") = false := by rw [hx2]; rfl
  unfold getAttr getAttrBy
  refine wpAny_bind (wpAny_mkText (wpAny_holding (wpAny_bind (I.type.at (wpAny_bind ((looks_findIn X k_ga).at ?_))))))
  repeat (any_goals (first | assumption | (with_reducible refine wpAny_loadPart_at he ?_; rw [hc]) | wp_step))
  refine (looks_findIn X k_gh).at ?_
  repeat (any_goals (first | assumption | (with_reducible refine wpAny_loadPart_at he ?_; rw [hc]) | wp_step))
  refine codeAny_call_builtin FA.ga.plain PySem.F.entry_bexc_ga (r_isGa X he hc ?_)
  have L1 := looks_find (M := model prog w) X I hf
  unfold Builtin.«object.__getattribute__»
  repeat (any_goals (first | assumption | (with_reducible refine wpAny_loadPart_at he ?_; rw [hc]) | with_reducible refine L1.at ?_ | wp_step))
end
end
-- NtRaise
section
open PySem PySem.W PySem.Spec PySem.Calls PyProof.Rows
abbrev isR (dx : Addr) (o : Obj) : Prop := o.cls = .ref 51 ∧ o.dict = some dx
theorem hard_R (dx : Addr) : Hard (isR dx) := fun o f h => ⟨by rw [Obj.cls_mapFields]; exact h.1, by obtain ⟨c, d, dt, sl⟩ := o; cases dt <;> exact h.2⟩
section
variable {prog : Program} {w : World} {A : Around} {E : Value → Shared → Prop} {s : Shared} {env : Env}
theorem raiseStmt_R {x : Sem Value} {Q : Flow → Shared → Prop} (hh : A.handled = none)
    (h : wpAny (model prog w) A x (fun v s₁ => ∃ e dx t, v = .ref e ∧ (KK w).In s₁.heap ∧ s₁.heap.get? e = some (excO (some dx) t) ∧ E (.ref e) s₁) E s) : wpAny (model prog w) A (raiseStmt env (some x) none) Q E s := by
  obtain ⟨nm, q, bs, hdct, sn, sub, ab, col, dd, k0, k1, k2, k3, k5, hK, rfl⟩ := k_cls (w := w)
  have hcB : (Value.ref 51 :: bmR).contains (.type "BaseException") = true := by decide
  unfold raiseStmt
  refine wpAny_bind (wpAny_mono h (fun v s₁ h₁ => ?_) fun _ _ x => x)
  obtain ⟨e, dx, t, rfl, X, he, hE⟩ := h₁
  obtain ⟨hp, g, d, tk, os⟩ := s₁
  have hC := X _ _ hK
  repeat (first | with_reducible refine wpAny_loadPart_at he ?_ | with_reducible refine wpAny_loadPart_at hC ?_ | (refine wpAny_isSubtype_exc hC ?_; rw [hcB]) | wp_step)
  exact wpAny_raiseNew_none hh hE
theorem raise_R {x : PySem.Expr} {pos : Pos} {Q : Flow → Shared → Prop} (hh : A.handled = none)
    (h : wpAny (model prog w) A (eval x env) (fun v s₁ => ∃ e dx t, v = .ref e ∧ (KK w).In s₁.heap ∧ s₁.heap.get? e = some (excO (some dx) t) ∧ E (.ref e) s₁) E s) : wpAny (model prog w) A (exec (.Raise (some x) none pos) env) Q E s := by
  rw [arm_exec_Raise]
  exact wpAny_bind (wpAny_standAt (raiseStmt_R hh (wpAny_bind (wpAny_mono h (fun v s₃ h₃ => wpAny_bind (wpAny_standAt (wpAny_pure h₃))) fun _ _ y => y))))
end
/-- the exception is on its way through the frames of l; the ledger news of the frame that raised it -/
def RaisedR (base G : Heap) (l : List Env) (e dx : Addr) (news : Led) (h : Heap) : Prop :=
  ∃ B, base.StaysIn B ∧ (∀ b o, G.get? b = some o → b ∉ l.filterMap (·.frame) → B.get? b = some o) ∧ (∀ q ∈ news, B.get? q.1 = some q.2 ∧ G.get? q.1 = none ∧ base.get? q.1 = none) ∧ Fly B l e (isR dx) .none h
section
variable {M : Model} {A : Around} {E : Value → Shared → Prop} {s' : Shared} {base g : Heap} {outer : List Env} {L a e dx t : Addr} {m : Str → Option Value} {name : Str} {scope : Scope} {cd : Value} {Q : Unit → Shared → Prop} {all rest : Led}
theorem leave_R (K : Below A base outer g) (F : Fr g L s'.heap m) (N : News g L s'.heap all) (P : Pick (e, excO (some dx) t) all rest) (off : ∀ p ∈ rest, p.1 ≠ e)
    (hQ : ∀ h', RaisedR base g outer e dx rest h' → g.UpToSlots h' → Q () { s' with heap := h' }) (hk : scope.kind = .function := by rfl) :
    wpAny M (A.deeper (envOf name scope L a cd)) (leaving (envOf name scope L a cd) (.ref e)) Q E s' := by
  have K' := K.push (name := name) (a := a) (cd := cd) F hk
  have N₁ := nt_pick N P
  have he := N₁ _ (.head _)
  have hfr : ∀ b ∈ (envOf name scope L a cd :: outer).filterMap (·.frame), b ≠ e := fun b hb z => by
    obtain ⟨_, o, ho, hn⟩ := K'.frames.mem hb
    rw [z, he.1] at ho
    cases ho
    exact hn _ rfl
  have hhid : ∀ b o, s'.heap.get? b = some o → b ≠ e → b ∉ (envOf name scope L a cd :: outer).filterMap (·.frame) → (hideAll s'.heap (e :: (envOf name scope L a cd :: outer).filterMap (·.frame))).get? b = some o := fun b o q ne nf => hideAll_get _ q fun hm => by
    rcases List.mem_cons.mp hm with z | z
    · exact ne z
    · exact nf z
  have st : base.StaysIn (hideAll s'.heap (e :: (envOf name scope L a cd :: outer).filterMap (·.frame))) := fun b o q => hhid b o (K'.stays b o q)
    (fun z => by have := K.stays b o q; rw [z, he.2.2] at this; cases this) (fun hm => by rw [(K'.frames.mem hm).1] at q; cases q)
  have hin : ∀ env ∈ (envOf name scope L a cd :: outer), ∀ b, env.frame = some b → b ∈ e :: (envOf name scope L a cd :: outer).filterMap (·.frame) := fun env hm b hb => .tail _ (List.mem_filterMap.mpr ⟨env, hm, hb⟩)
  refine fly_first (base := hideAll s'.heap (e :: (envOf name scope L a cd :: outer).filterMap (·.frame))) (hard_R dx) K'.stack (funFrames_hide K'.frames hin) rfl (fun b o q => of_hideAll _ q) (hideAll_none _ (.head _)) he.1 ⟨rfl, rfl⟩ rfl rfl fun h' x u => hQ h' ⟨_, st, fun b o q nm => ?_, fun q hq => ?_, x⟩ ((Heap.UpToSlots.of_keeps F.keep).trans u)
  · refine hhid b o (F.keep b o q) (fun z => by rw [z, he.2.2] at q; cases q) fun hm => ?_
    rcases kts_mem hm with z | z
    · rw [z, kts_self F] at q
      cases q
    · exact nm z
  · have q' := N₁ q (.tail _ hq)
    refine ⟨hhid _ _ q'.1 (off q hq) fun hm => ?_, q'.2.2, fresh_of_stays K.stays q'.2.2⟩
    obtain ⟨env, hm, hf⟩ := List.mem_filterMap.mp hm
    rcases List.mem_cons.mp hm with rfl | hm
    · exact q'.2.1 (Option.some.inj hf).symm
    · obtain ⟨o, ho, _⟩ := (K.frames.mem (List.mem_filterMap.mpr ⟨env, hm, hf⟩)).2
      rw [q'.2.2] at ho
      cases ho
end
end
-- NtCaught
section
open PySem PySem.W PySem.Spec PySem.Calls PyProof.Rows
section
variable {prog : Program} {w : World} {A₀ : Around} {E : Value → Shared → Prop} {s' : Shared} {base g G : Heap} {outer : List Env} {L a e dx : Addr} {m : Str → Option Value} {name : Str} {scope : Scope} {cd : Value}
  {n : Str} {b₀ : Stmt} {suite : List Stmt} {pos np : Pos} {rest : List ExceptHandler} {Q : Flow → Shared → Prop} {news : Led} {p : Program} {loose : List Str} {mean : ExcName → Option Value} {mg mb : Str → Option Value} {x : Str} {k₁ : Tok} {v : Value}
theorem caught_R (R : RaisedR base G (envOf name scope L a cd :: outer) e dx news s'.heap) (hm : (dx, msgD w k₁ v) ∈ news) (F : Fr g L G m) (K : Below A₀ base outer g) (hsm : G.UpToSlots s'.heap) (XB : (KK w).In base) (TB : Top p loose mean mg mb base)
    (ex : nsIn (KK w) mainGlobals x = some (some (.ref 51)))
    (k : ∀ h' g' tk oe, Fr g' L h' (fun y => if y = n then some (.ref e) else m y) → News g' L h' [(e, oe), (dx, msgD w k₁ v)] → oe.cls = .ref 51 → oe.dict = some dx → notCls oe = true → Below A₀ base outer g' → (KK w).In g' → Top p loose mean mg mb g' →
      wpAny (model prog w) ((A₀.deeper (envOf name scope L a cd)).mark (some (.ref e))) (execs (b₀ :: suite) (envOf name scope L a cd))
        (fun f s₄ => wpAny (model prog w) (A₀.deeper (envOf name scope L a cd)) (do bindName (envOf name scope L a cd) n .none; unbindBehindTheSuite (envOf name scope L a cd) n pos) (fun _ s₅ => Q f s₅) E s₄)
        (AsSuiteRaised (model prog w) ((A₀.deeper (envOf name scope L a cd)).mark (some (.ref e))) (envOf name scope L a cd) n pos (notedBy (model prog w) ((A₀.deeper (envOf name scope L a cd)).mark (some (.ref e))) (envOf name scope L a cd) (cameBackBy (model prog w) (A₀.deeper (envOf name scope L a cd)) (envOf name scope L a cd) E)))
        { s' with heap := h', toks := tk })
    (hk : scope.kind = .function := by rfl) (hlo : (envOf name scope L a cd).kindOf n = some .local := by rfl) (hx : (envOf name scope L a cd).kindOf x = some .globalImplicit := by rfl) (hd : (x == ("__debug__" : Str)) = false := by decide) :
    wpAny (model prog w) (A₀.deeper (envOf name scope L a cd)) (noteFrame (.ref e) (envOf name scope L a cd))
      (fun _ s₂ => wpAny (model prog w) (A₀.deeper (envOf name scope L a cd)) (setFlight (.ref e) none) (fun _ s₃ =>
        wpAny (model prog w) (A₀.deeper (envOf name scope L a cd)) (handleBy (.ref e) (envOf name scope L a cd) (.ExceptHandler (some (.Name x np)) (some n) (b₀ :: suite) pos :: rest)) Q E s₃) E s₂) E s' := by
  obtain ⟨B, hB, hBG, hl, hfl⟩ := R
  obtain ⟨nm, q, bs, hdct, sn, sub, ab, col, dd, k0, k1, k2, k3, k5, hK, rfl⟩ := k_cls (w := w)
  have hL : B.get? L = none := by
    obtain ⟨_, ⟨L', _, hf, hn', _⟩, _⟩ := hfl.frames
    obtain rfl : L = L' := Option.some.inj hf
    exact hn'
  refine fly_note (hard_R dx) (Around.frames_deeper K.stack) rfl hfl fun h₄ x₄ u₄ => ?_
  refine fly_land x₄ fun h₅ x₅ u₅ => ?_
  have u := hsm.trans (u₄.trans u₅)
  obtain ⟨g₅, T₅, F₅, K₅⟩ := kts_ground K F hBG x₅.stays u
  have X₅ : (KK w).In g₅ := XB.keeps K₅.stays
  have P₅ : TopRead p loose mg mb g₅ := topRead_of (TB.keeps K₅.stays)
  obtain ⟨ob, vs, hob, hoP, hobd⟩ := x₅.obj
  have hC₅ := F₅.keep _ _ (X₅ _ _ hK)
  refine wpAny_handleBy_cons (codeAny_handlers_test (name_K F₅ X₅ P₅ ex ?_ hk hx hd)) (by intro q; cases q)
  refine wpAny_excMatches_sub_self hC₅ hob hoP.1 (by decide) (codeAny_handlers_suite_as ?_)
  refine fly_land x₅ fun h₆ x₆ u₆ => ?_
  obtain ⟨g₆, T₆, F₆, K₆⟩ := kts_ground K F hBG x₆.stays (u.trans u₆)
  obtain ⟨oe, ws, hoe, hoP', hoed⟩ := x₆.obj
  have ne₆ : g₆.get? e = none := T₆.none_ _ (kts_fresh F hBG x₆.new fun o ho hf => by
    obtain ⟨_, o', ho', hd'⟩ := K.frames.mem hf
    rw [ho] at ho'
    cases ho'
    obtain ⟨sl, hs⟩ := (u.trans u₆) _ _ (F.keep _ _ ho) hd'
    rw [hoe] at hs
    cases hs
    exact hd' _ hoed)
  have hLe : e ≠ L := fun z => by
    obtain ⟨_, es, ep, hLo, hLd, _⟩ := F₆.ns
    rw [z, hLo] at hoe
    cases hoe
    rw [hLd] at hoed
    cases hoed
  have N₆ : News g₆ L h₆ [(e, oe), (dx, msgD w k₁ v)] := fun q hq => by
    rcases List.mem_cons.mp hq with rfl | hq
    · exact ⟨hoe, hLe, ne₆⟩
    · rw [List.mem_singleton.mp hq]
      exact ⟨x₆.stays _ _ (hl _ hm).1, (fun z => by have := (hl _ hm).1; rw [z, hL] at this; cases this), T₆.none_ _ (kts_none F.keep (hl _ hm).2.1)⟩
  refine stN F₆ N₆ (fun h₇ F₇ N₇ => ?_) hk hlo
  exact k h₇ g₆ _ oe F₇ N₇ hoP'.1 hoP'.2 (by unfold notCls; rw [hoed]) K₆ (XB.keeps K₆.stays) (TB.keeps K₆.stays)
end
-- calls whose end asks nothing of the heap
section
variable {prog : Program} {w : World} {A A₀ : Around} {s : Shared} {K : Frag} {L : Addr} {h₀ base : Heap} {m mg mb : Str → Option Value} {news : Led} {p : Program} {loose : List Str} {mean : ExcName → Option Value}
  {env : Env} {outer : List Env} {R : Result → Shared → Prop} {name qual : Str} {params : Arguments} {body : List Stmt} {scope : Scope} {dV kV doc pm cdv ct oc : Value} {an od : Option Addr} {osl : Array (Option Value)} {f : Addr} {args : Args} {binds : List (Str × Value)}
theorem code_defE (B : Below A₀ base outer h₀) (F : Fr h₀ L s.heap m) (X₀ : K.In h₀) (N : News h₀ L s.heap news) (T : Top p loose mean mg mb h₀) (hA : A.frames = some (env :: outer)) (hf : env.frame = some L) (hke : env.scope.kind = .function)
    (ho : K.lookup f = some ⟨oc, od, .func (fnOf name qual params body scope dV kV doc pm an cdv ct), osl⟩) (hcd : codeIn K cdv qual = true) (hroom : A.depth < recursionLimit)
    (hbind : BindsTo s (fnOf name qual params body scope dV kV doc pm an cdv ct) args binds) (hloc : ∀ y ∈ binds, scope.names.lookup y.1 = some .local)
    (h : ∀ g L' h₁, Fr h₀ L g m → Fr g L' h₁ (fun y => binds.reverse.lookup y) → News g L' h₁ news → Below A base (env :: outer) g → K.In g → Top p loose mean mg mb g →
      wpAny (model prog w) (A.deeper (envOf qual scope L' f cdv)) (execs body (envOf qual scope L' f cdv))
        (fun fl s' => R (.ok (.ret (match fl with | .ret v => v | _ => .none))) s')
        (fun e s' => wpAny (model prog w) (A.deeper (envOf qual scope L' f cdv)) (leaving (envOf qual scope L' f cdv) e) (fun _ s'' => R (.error e) s'') (fun e' s'' => R (.error e') s'') s')
        { s with heap := h₁, toks := s.toks + binds.length })
    (hco : scope.isCoroutine = false) (hgen : scope.isGenerator = false) (hk : scope.kind = .function) (hcell : ∀ x ∈ scope.names, x.2 ≠ .cell) : codeAny (model prog w) A (.call (.ref f) args) R s := by
  have X := X₀.keeps F.keep
  obtain ⟨FG, BG, st, -⟩ := groundX (R := R) B F N hA hf hke
  refine codeAny_call_def (fd := fnOf name qual params body scope dV kV doc pm an cdv ct) (body := body) (binds := binds) hroom (X _ _ ho) rfl (T.nolimit.keeps F.keep) (codeRec_of X hcd) rfl hbind hcell hloc (fun h₁ hns hk₁ => ?_) hco hgen hk
  exact h _ s.heap.objs.size h₁ FG ⟨hns, fun b o q => hk₁ b o (of_hideAll _ q), Nat.le_of_eq (hideAll_size _ _)⟩ (fun q hq => ⟨hk₁ _ _ (N q hq).1, Nat.ne_of_lt (Heap.lt_size (N q hq).1), hideAll_none _ (List.mem_map_of_mem hq)⟩) BG (X₀.keeps st) (T.keeps st)
theorem code_defCE (B : Below A₀ base outer h₀) (F : Fr h₀ L s.heap m) (X₀ : K.In h₀) (N : News h₀ L s.heap news) (T : Top p loose mean mg mb h₀) (hA : A.frames = some (env :: outer)) (hf : env.frame = some L) (hke : env.scope.kind = .function)
    (ho : K.lookup f = some ⟨oc, od, .func (fnOf name qual params body scope dV kV doc pm an cdv ct), osl⟩) (hcd : codeIn K cdv qual = true) (hroom : A.depth < recursionLimit)
    (hbind : BindsTo s (fnOf name qual params body scope dV kV doc pm an cdv ct) args binds) (hkind : (binds.all fun y => scope.names.lookup y.1 == some .local || scope.names.lookup y.1 == some .cell) = true) (hnd : ((cellsFrom 0 scope.names []).map (·.1)).Nodup)
    (h : ∀ g L' h₁ tk cells, Fr h₀ L g m → Fr g L' h₁ (bindL (envOfC qual scope L' f cdv).kindOf binds fun _ => none) → News g L' h₁ (cells ++ news) →
      CellsAre (bindC (envOfC qual scope L' f cdv).kindOf binds fun _ => none) (cellsFrom (L' + 1) scope.names []) cells → Below A base (env :: outer) g → K.In g → Top p loose mean mg mb g → (∀ p ∈ news, p.1 < L') →
      wpAny (model prog w) (A.deeper (envOfC qual scope L' f cdv)) (execs body (envOfC qual scope L' f cdv))
        (fun fl s' => R (.ok (.ret (match fl with | .ret v => v | _ => .none))) s')
        (fun e s' => wpAny (model prog w) (A.deeper (envOfC qual scope L' f cdv)) (leaving (envOfC qual scope L' f cdv) e) (fun _ s'' => R (.error e) s'') (fun e' s'' => R (.error e') s'') s')
        { s with heap := h₁, toks := tk })
    (hco : scope.isCoroutine = false) (hgen : scope.isGenerator = false) (hk : scope.kind = .function) : codeAny (model prog w) A (.call (.ref f) args) R s := by
  have X := X₀.keeps F.keep
  obtain ⟨FG, BG, st, -⟩ := groundX (R := R) B F N hA hf hke
  refine codeAny_call_function hroom (X _ _ ho) rfl hco hgen rfl (codeRec_of X hcd) (hbind _ _ _ _ ?_)
  refine wpAny_newFunctionEnv_cells hk (kindsX hkind _) fun env' he s' x => ?_
  subst he
  refine ⟨(T.nolimit.keeps F.keep).keeps x.toInCall.keep, codeAny_func ?_⟩
  obtain ⟨h₁, tk, rfl, _⟩ := x.done
  have hk₁ := x.toInCall.keep
  obtain ⟨cells, NC, Y⟩ := Cl.news (h₀ := s.heap) (Nat.le_refl _) fun n c hm => ⟨x.cell n c (lookup_of_mem_nodup (cellsFrom_names scope.names 0 (s.heap.objs.size + 1) [] [] rfl ▸ hnd) hm), x.above n c hm⟩
  refine h _ s.heap.objs.size h₁ tk cells FG ⟨x.toInCall.ns, fun b o q => hk₁ b o (of_hideAll _ q), Nat.le_of_eq (hideAll_size _ _)⟩ (fun q hq => ?_) Y BG (X₀.keeps st) (T.keeps st) (fun q hq => Heap.lt_size (N q hq).1)
  rcases List.mem_append.mp hq with hq | hq
  · refine ⟨(NC q hq).1, (NC q hq).2.1, ?_⟩
    cases z : (hideAll s.heap (news.map (·.1))).get? q.1 with
    | none => rfl
    | some o => have := of_hideAll _ z; rw [(NC q hq).2.2] at this; cases this
  · exact ⟨hk₁ _ _ (N q hq).1, Nat.ne_of_lt (Heap.lt_size (N q hq).1), hideAll_none _ (List.mem_map_of_mem hq)⟩
end
end
-- NtMake
section
open PySem PySem.W PySem.Spec PySem.Calls PyProof.Rows PySem.SeqAt
theorem nt_meta : typeOf (.type "Exception") = pure (.type "type") := by kernel_rfl
theorem c_exc (w : World) (news : Led) (v : Str) (t : Tok) :
   Con w 51 [.str v t] news 8 (fun h₀ L m Q => ∀ (e dx t' : Addr) (k : Tok) (h' : Heap) (tk' : Nat), Fr h₀ L h' m → News h₀ L h' ((e, excO (some dx) t') :: (dx, msgD w k (.str v t)) :: news) → (∀ p ∈ (dx, msgD w k (.str v t)) :: news, p.1 ≠ e) → Q (.ref e) h' tk') := by
  w_top off
  k_with_none
  k_with "k_room" => skip
  k_with "units_room" => skip
  k_with "k_all" => ((repeat ((refine' List.forall_mem_cons.mpr ⟨?ha, ?_⟩); (case ha => k_ne))); (first | exact List.forall_mem_nil _ | assumption | exact off1_all (by assumption) | exact allLt_ne (by assumption) (by (try dsimp only); omega) | ((with_reducible rename _ ∧ AllLt _ _ => hx9); exact allLt_ne hx9.2 (by (try dsimp only); omega)) | ((with_reducible rename _ ∧ _ ∧ AllLt _ _ => hx9); exact allLt_ne hx9.2.2 (by (try dsimp only); omega)) | ((with_reducible rename _ ∧ _ ∧ _ ∧ AllLt _ _ => hx9); exact allLt_ne hx9.2.2.2 (by (try dsimp only); omega))))
  k_with "lcg_sub" => first | with_reducible assumption | ((with_reducible (repeat' (first | exact List.mem_cons_self | assumption | refine List.mem_cons_of_mem _ ?_))); done)
  k_with "k_mem" => first | with_reducible assumption | ((with_reducible (repeat' (first | exact List.mem_cons_self | assumption | refine List.mem_cons_of_mem _ ?_))); done)
  k_with "lcg_off" => first | exact True.intro | assumption | (refine And.intro (by first | assumption | exact ⟨by k_ne, by k_ne, by k_ne⟩) ?_; lcg_off)
  k_with "k_lt" => skip
  k_with "k_ne" => (refine neN ?_; (try dsimp only); first | with_reducible assumption | exact Ne.symm (by with_reducible assumption) | exact o_gt (by with_reducible assumption) (by lcg_sub) | exact o_1' (by with_reducible assumption) (by lcg_sub) | exact o_lt (by with_reducible assumption) (by lcg_sub) | exact o_1 (by with_reducible assumption) (by lcg_sub) | exact o_3I (by with_reducible assumption) (by lcg_sub) | exact Ne.symm (o_3I (by with_reducible assumption) (by lcg_sub)) | exact o_3C (by with_reducible assumption) (by lcg_sub) | exact Ne.symm (o_3C (by with_reducible assumption) (by lcg_sub)) | exact o_3D (by with_reducible assumption) (by lcg_sub) | exact Ne.symm (o_3D (by with_reducible assumption) (by lcg_sub)) | exact o_4I (by with_reducible assumption) (by lcg_sub) | exact Ne.symm (o_4I (by with_reducible assumption) (by lcg_sub)) | exact o_4C (by with_reducible assumption) (by lcg_sub) | exact Ne.symm (o_4C (by with_reducible assumption) (by lcg_sub)) | exact o_4X (by with_reducible assumption) (by lcg_sub) | exact Ne.symm (o_4X (by with_reducible assumption) (by lcg_sub)) | exact o_4D (by with_reducible assumption) (by lcg_sub) | exact Ne.symm (o_4D (by with_reducible assumption) (by lcg_sub)) | ((repeat (first | exact cn1 | exact cn2 | exact cn3 | exact cn4 | exact cn5 | exact cn6 | exact cn7 | exact Ne.symm cn1 | exact Ne.symm cn2 | exact Ne.symm cn3 | exact Ne.symm cn4 | exact Ne.symm cn5 | exact Ne.symm cn6 | exact Ne.symm cn7 | refine cnS ?_)); done))
  k_with "k_all" => ((repeat ((refine' List.forall_mem_cons.mpr ⟨?ha, ?_⟩); (case ha => k_ne))); (first | exact List.forall_mem_nil _ | with_reducible assumption | exact all_lt (by with_reducible assumption) (by (repeat' (first | with_reducible assumption | exact Sub.refl | refine Sub.cons ?_))) | exact all_1 (by with_reducible assumption) (by (repeat' (first | with_reducible assumption | exact Sub.refl | refine Sub.cons ?_))) | exact all_3I (by with_reducible assumption) (by (repeat' (first | with_reducible assumption | exact Sub.refl | refine Sub.cons ?_))) | exact all_3C (by with_reducible assumption) (by (repeat' (first | with_reducible assumption | exact Sub.refl | refine Sub.cons ?_))) | exact all_3D (by with_reducible assumption) (by (repeat' (first | with_reducible assumption | exact Sub.refl | refine Sub.cons ?_))) | exact all_4I (by with_reducible assumption) (by (repeat' (first | with_reducible assumption | exact Sub.refl | refine Sub.cons ?_))) | exact all_4C (by with_reducible assumption) (by (repeat' (first | with_reducible assumption | exact Sub.refl | refine Sub.cons ?_))) | exact all_4X (by with_reducible assumption) (by (repeat' (first | with_reducible assumption | exact Sub.refl | refine Sub.cons ?_))) | exact all_4D (by with_reducible assumption) (by (repeat' (first | with_reducible assumption | exact Sub.refl | refine Sub.cons ?_))) | exact allLt_ne (by with_reducible assumption) (by repeat (first | exact Nat.le_refl _ | refine Nat.le_succ_of_le ?_))))
  k_with "k_enter" => skip
  k_with "FinE" => ((unfold LCg.FinE); intro D' h' tk' F' N' o1'; (try simp only [List.nil_append, List.cons_append] at N'); (try dsimp only))
  k_with "FinA" => ((unfold LCg.FinA); intro D' h' tk' F' N' o1'; (try simp only [List.nil_append, List.cons_append] at N'); (try dsimp only))
  k_with "CompEnd" => (refine' nt_compEnd ?F ?N ?P1 ?P2 ?P3 ?off ?S ?_; (case F => assumption); (case N => assumption); (case P1 => repeat' (first | exact Pick.head | refine' Pick.tail ?_)); (case P2 => repeat' (first | exact Pick.head | refine' Pick.tail ?_)); (case P3 => repeat' (first | exact Pick.head | refine' Pick.tail ?_)); (case off => lcg_off); (case S => first | lcg_src | assumption))
  k_with "eval ListComp" => (k_here; (with_reducible show wpAny _ _ (eval (PySem.Expr.ListComp _ [⟨PySem.Expr.Name _ _, _, [], _⟩] _ _) _) _ _ _); (try k_fold); k_dflt (refine LCg.ListComp_U (F₀ := by k_asm) (by with_unfolding_all rfl) (by decide) (by rfl) (by decide) (by rfl) ?_))
  k_with "exec Assign cons ListComp" => (k_here; k_dflt (refine LCg.Assign_ListComp_U (F₀ := by k_asm) (by rfl) (by with_unfolding_all rfl) (by with_unfolding_all rfl) (by decide) (by rfl) (by decide) (by rfl) (by rfl) (by rfl) ?_))
  k_with "eval ListComp" => (k_here; (with_reducible show wpAny _ _ (eval (PySem.Expr.ListComp _ [⟨PySem.Expr.Name _ _, _, [_], _⟩] _ _) _) _ _ _); (try k_fold); k_dflt (refine LCt.ListComp_T (F₀ := by k_asm) (by with_unfolding_all rfl) (by decide) (by rfl) (by decide) (by rfl) ?_))
  k_with "CompSrcT" => (k_here; k_dflt (first | (refine LCt.CompSrcT.ledger (by rfl) (by k_asm) (by k_asm) (by lcg_sub) (by first | exact Nat.le_of_ble_eq_true rfl | size_fits) ?_; intro g'; lct_lit) | (refine LCt.CompSrcT.range (by rfl) (by k_asm) (by k_asm) (by assumption) (by first | decide | rfl) (by first | rfl | decide) (by first | exact Nat.le_of_ble_eq_true rfl | size_fits) ?_; intro g'; lct_lit)))
  k_with "CompRestT" => (with_unfolding_all first | (refine LCt.CompRestT.succ ?_; intro v' I' oI' C' oC' D' m' h' tk' E' hv' hC' hx' F' N' off' ne'; (first | lcg_open hv' | (obtain ⟨t9', hv9'⟩ := hv'; subst hv9')); (obtain ⟨ne1', ne2', ne3'⟩ := ne')) | refine LCt.CompRestT.zero ?_)
  k_with "CompSrc" => (k_here; k_dflt (first | (refine LCg.CompSrc.ledger (by rfl) (by k_asm) (by k_asm) (by lcg_sub) (by first | exact Nat.le_of_ble_eq_true rfl | size_fits) ?_; intro g'; lcg_lit) | (refine LCg.CompSrc.range (by rfl) (by k_asm) (by k_asm) (by assumption) (by first | decide | rfl) (by first | rfl | decide) (by first | exact Nat.le_of_ble_eq_true rfl | size_fits) ?_; intro g'; lcg_lit)))
  k_with "CompRest" => (with_unfolding_all first | (refine LCg.CompRest.succ ?_; intro v' I' oI' C' oC' D' m' h' tk' E' hv' hC' hx' F' N' off' ne'; (first | lcg_open hv' | (obtain ⟨t9', hv9'⟩ := hv'; subst hv9')); (obtain ⟨ne1', ne2', ne3'⟩ := ne')) | refine LCg.CompRest.zero ?_)
  k_with "execs cons" => ((with_reducible refine gen_toks (fun tk => ?_)); (with_reducible refine wpAny_execs_cons ?_); (try dsimp only); (try k_fold))
  k_with "subscriptTail" => (k_here; (with_reducible show wpAny _ _ (subscriptTail _ _ (Value.ref _) (Value.int _ _)) _ _ _); k_dflt (first | (refine' nt_item ?N ?hm ?k2 ?k3 ?k4 ?_ ?k6; (case N => k_asm); (case hm => lcg_sub); (case k2 => decide); (case k3 => decide); (case k4 => exact rfl); (case k6 => with_unfolding_all rfl); k_whole) | (refine' nt_itemK ?X ?F ?hl ?k2 ?k3 ?k4 ?_ ?k6 ?k7; (case F => k_asm); (case X => k_asm); (case hl => k_is); (case k2 => decide); (case k3 => decide); (case k4 => exact rfl); (case k6 => with_unfolding_all rfl); (case k7 => intro _; with_unfolding_all rfl); k_whole) | (refine' nt_itemT ?N ?hm ?k2 ?k3 ?k4 ?_ ?k6 ?k7; (case N => k_asm); (case hm => lcg_sub); (case k2 => decide); (case k3 => decide); (case k4 => exact rfl); (case k6 => with_unfolding_all rfl); (case k7 => intro _; with_unfolding_all rfl); k_whole)))
  k_with "subscriptTail Name Constant ref int" => (k_here; (with_reducible show wpAny _ _ (subscriptTail _ _ (Value.ref _) (Value.int _ _)) _ _ _); k_dflt (first | (refine' nt_item ?N ?hm ?k2 ?k3 ?k4 ?_ ?k6; (case N => k_asm); (case hm => lcg_sub); (case k2 => decide); (case k3 => decide); (case k4 => exact rfl); (case k6 => with_unfolding_all rfl); k_whole) | (refine' nt_itemK ?X ?F ?hl ?k2 ?k3 ?k4 ?_ ?k6 ?k7; (case F => k_asm); (case X => k_asm); (case hl => k_is); (case k2 => decide); (case k3 => decide); (case k4 => exact rfl); (case k6 => with_unfolding_all rfl); (case k7 => intro _; with_unfolding_all rfl); k_whole) | (refine' nt_itemT ?N ?hm ?k2 ?k3 ?k4 ?_ ?k6 ?k7; (case N => k_asm); (case hm => lcg_sub); (case k2 => decide); (case k3 => decide); (case k4 => exact rfl); (case k6 => with_unfolding_all rfl); (case k7 => intro _; with_unfolding_all rfl); k_whole)))
  k_with "subscriptTail Name Name ref int" => (k_here; (with_reducible show wpAny _ _ (subscriptTail _ _ (Value.ref _) (Value.int _ _)) _ _ _); k_dflt (first | (refine' nt_item ?N ?hm ?k2 ?k3 ?k4 ?_ ?k6; (case N => k_asm); (case hm => lcg_sub); (case k2 => decide); (case k3 => decide); (case k4 => exact rfl); (case k6 => with_unfolding_all rfl); k_whole) | (refine' nt_itemK ?X ?F ?hl ?k2 ?k3 ?k4 ?_ ?k6 ?k7; (case F => k_asm); (case X => k_asm); (case hl => k_is); (case k2 => decide); (case k3 => decide); (case k4 => exact rfl); (case k6 => with_unfolding_all rfl); (case k7 => intro _; with_unfolding_all rfl); k_whole) | (refine' nt_itemT ?N ?hm ?k2 ?k3 ?k4 ?_ ?k6 ?k7; (case N => k_asm); (case hm => lcg_sub); (case k2 => decide); (case k3 => decide); (case k4 => exact rfl); (case k6 => with_unfolding_all rfl); (case k7 => intro _; with_unfolding_all rfl); k_whole)))
  k_with "subscriptTail Attribute Name Constant ref int" => (k_here; (with_reducible show wpAny _ _ (subscriptTail _ _ (Value.ref _) (Value.int _ _)) _ _ _); k_dflt (first | (refine' nt_item ?N ?hm ?k2 ?k3 ?k4 ?_ ?k6; (case N => k_asm); (case hm => lcg_sub); (case k2 => decide); (case k3 => decide); (case k4 => exact rfl); (case k6 => with_unfolding_all rfl); k_whole) | (refine' nt_itemK ?X ?F ?hl ?k2 ?k3 ?k4 ?_ ?k6 ?k7; (case F => k_asm); (case X => k_asm); (case hl => k_is); (case k2 => decide); (case k3 => decide); (case k4 => exact rfl); (case k6 => with_unfolding_all rfl); (case k7 => intro _; with_unfolding_all rfl); k_whole) | (refine' nt_itemT ?N ?hm ?k2 ?k3 ?k4 ?_ ?k6 ?k7; (case N => k_asm); (case hm => lcg_sub); (case k2 => decide); (case k3 => decide); (case k4 => exact rfl); (case k6 => with_unfolding_all rfl); (case k7 => intro _; with_unfolding_all rfl); k_whole)))
  k_with "subscriptTail Attribute Name Name ref int" => (k_here; (with_reducible show wpAny _ _ (subscriptTail _ _ (Value.ref _) (Value.int _ _)) _ _ _); k_dflt (first | (refine' nt_item ?N ?hm ?k2 ?k3 ?k4 ?_ ?k6; (case N => k_asm); (case hm => lcg_sub); (case k2 => decide); (case k3 => decide); (case k4 => exact rfl); (case k6 => with_unfolding_all rfl); k_whole) | (refine' nt_itemK ?X ?F ?hl ?k2 ?k3 ?k4 ?_ ?k6 ?k7; (case F => k_asm); (case X => k_asm); (case hl => k_is); (case k2 => decide); (case k3 => decide); (case k4 => exact rfl); (case k6 => with_unfolding_all rfl); (case k7 => intro _; with_unfolding_all rfl); k_whole) | (refine' nt_itemT ?N ?hm ?k2 ?k3 ?k4 ?_ ?k6 ?k7; (case N => k_asm); (case hm => lcg_sub); (case k2 => decide); (case k3 => decide); (case k4 => exact rfl); (case k6 => with_unfolding_all rfl); (case k7 => intro _; with_unfolding_all rfl); k_whole)))
  k_with "subscriptTail Subscript Name ref int" => (k_here; (with_reducible show wpAny _ _ (subscriptTail _ _ (Value.ref _) (Value.int _ _)) _ _ _); k_dflt (first | (refine' nt_item ?N ?hm ?k2 ?k3 ?k4 ?_ ?k6; (case N => k_asm); (case hm => lcg_sub); (case k2 => decide); (case k3 => decide); (case k4 => exact rfl); (case k6 => with_unfolding_all rfl); k_whole) | (refine' nt_itemK ?X ?F ?hl ?k2 ?k3 ?k4 ?_ ?k6 ?k7; (case F => k_asm); (case X => k_asm); (case hl => k_is); (case k2 => decide); (case k3 => decide); (case k4 => exact rfl); (case k6 => with_unfolding_all rfl); (case k7 => intro _; with_unfolding_all rfl); k_whole) | (refine' nt_itemT ?N ?hm ?k2 ?k3 ?k4 ?_ ?k6 ?k7; (case N => k_asm); (case hm => lcg_sub); (case k2 => decide); (case k3 => decide); (case k4 => exact rfl); (case k6 => with_unfolding_all rfl); (case k7 => intro _; with_unfolding_all rfl); k_whole)))
  k_with "subscriptTail Subscript Constant ref int" => (k_here; (with_reducible show wpAny _ _ (subscriptTail _ _ (Value.ref _) (Value.int _ _)) _ _ _); k_dflt (first | (refine' nt_item ?N ?hm ?k2 ?k3 ?k4 ?_ ?k6; (case N => k_asm); (case hm => lcg_sub); (case k2 => decide); (case k3 => decide); (case k4 => exact rfl); (case k6 => with_unfolding_all rfl); k_whole) | (refine' nt_itemK ?X ?F ?hl ?k2 ?k3 ?k4 ?_ ?k6 ?k7; (case F => k_asm); (case X => k_asm); (case hl => k_is); (case k2 => decide); (case k3 => decide); (case k4 => exact rfl); (case k6 => with_unfolding_all rfl); (case k7 => intro _; with_unfolding_all rfl); k_whole) | (refine' nt_itemT ?N ?hm ?k2 ?k3 ?k4 ?_ ?k6 ?k7; (case N => k_asm); (case hm => lcg_sub); (case k2 => decide); (case k3 => decide); (case k4 => exact rfl); (case k6 => with_unfolding_all rfl); (case k7 => intro _; with_unfolding_all rfl); k_whole)))
  k_with "setItem ref int" => (k_here; k_dflt (refine' ki_set ?F ?N ?k2 ?k3 ?k4 ?U ?_; (case F => k_asm); (case N => k_asm); (case U => k_upd); (case k2 => decide); (case k3 => decide); (case k4 => exact rfl); k_whole); intro h' F' N'; (try k_sweep))
  k_with "eval Name" => (k_here; (with_reducible show wpAny _ _ (eval (Expr.Name _ _) (envOf _ _ _ _ _)) _ _ _); (with_reducible rename Fr _ _ _ _ => kF); k_dflt (first | (name_kind "local"; (refine' ld kF ?k2 ?_ ?a ?b ?c; (case k2 => exact rfl); (case a => kernel_rfl!); (case b => kernel_rfl!); (case c => decide +kernel)); k_whole) | (name_kind "globalImplicit"; (refine' name_K kF ?k1 ?k2 ?k3 ?_ ?a ?b ?c; (case k1 => k_asm); (case k2 => k_asm); (case k3 => k_is); (case a => kernel_rfl!); (case b => kernel_rfl!); (case c => decide +kernel); k_whole)) | (refine' name_B kF ?k1 ?k2 ?k3 ?k4 ?k5 ?_; (case k1 => k_asm); (case k2 => k_asm); (case k3 => k_is); (case k4 => boot_by_name); (case k5 => decide); k_whole)))
  k_with "compareOp NotEq ref ref" => (k_here; k_dflt (first | (with_reducible refine' ne_t3 ?N ?ha ?hb ?e1 ?e2 ?e3 ?hu ?_; (case N => k_asm); (case ha => lcg_sub); (case hb => lcg_sub); (case e1 => first | assumption | exact (Grey.h (by assumption) (by assumption) (by assumption)).1 | exact (Grey2.h (by assumption) (by assumption) (by assumption)).1 | rfl); (case e2 => first | assumption | exact (Grey.h (by assumption) (by assumption) (by assumption)).2.1 | exact (Grey2.h (by assumption) (by assumption) (by assumption)).2.1 | rfl); (case e3 => first | assumption | exact (Grey.h (by assumption) (by assumption) (by assumption)).2.2 | exact (Grey2.h (by assumption) (by assumption) (by assumption)).2.2 | rfl); (case hu => units_room)) | (with_reducible refine' ne_l3 ?N ?ha ?hb ?e1 ?e2 ?e3 ?hu ?_; (case N => k_asm); (case ha => lcg_sub); (case hb => lcg_sub); (case e1 => first | assumption | exact (Grey.h (by assumption) (by assumption) (by assumption)).1 | exact (Grey2.h (by assumption) (by assumption) (by assumption)).1 | rfl); (case e2 => first | assumption | exact (Grey.h (by assumption) (by assumption) (by assumption)).2.1 | exact (Grey2.h (by assumption) (by assumption) (by assumption)).2.1 | rfl); (case e3 => first | assumption | exact (Grey.h (by assumption) (by assumption) (by assumption)).2.2 | exact (Grey2.h (by assumption) (by assumption) (by assumption)).2.2 | rfl); (case hu => units_room)) | (with_reducible refine' ne_l0 ?N ?ha ?hb ?hu ?_; (case N => k_asm); (case ha => lcg_sub); (case hb => lcg_sub); (case hu => units_room))))
  k_with "compareOp Eq ref ref" => (k_here; k_dflt ((with_reducible refine' eq_l0 ?N ?ha ?hb ?hu ?_; (case N => k_asm); (case ha => lcg_sub); (case hb => lcg_sub); (case hu => units_room))))
  k_with "eval Call" => ((with_reducible show wpAny _ _ (eval (Expr.Call (Expr.Name _ _) _ [] _) (envOf _ _ _ _ _)) _ _ _); k_dflt (refine Call_ ?_))
  k_with "getMethod type:Exception" => (k_here; refine' method_type ?F ?X ?m (by decide +kernel) ?e ?h ?_; (case F => k_asm); (case X => k_asm); (case m => exact nt_meta); (case e => k_dflt k_is); (case h => k_handed))
  k_with "call builtin:Exception.__init__" => (k_here; k_dflt (refine' r_init ?F ?X ?N ?P ?off ?_; (case F => k_asm); (case X => k_asm); (case N => k_asm); (case P => exact Pick.head); (case off => assumption)); intro h' t2' F' N'; (try k_sweep))
  k_with "setAttr ref" => (k_here; k_dflt (refine' r_store ?F ?X ?N ?P ?off ?_; (case F => k_asm); (case X => k_asm); (case N => k_asm); (case P => exact Pick.head); (case off => assumption)); intro h' tk' dx' k' F' N' lt'; (try k_sweep))
  unfold Con
  k_fill
  intro mean mg mb dp un gd cn cs aa ccd cl outer A₀ base h₀ L m s Q E B F X9 N T9 hk hd hu hret
  obtain ⟨hp, g, d, tk, os⟩ := s
  refine r_call (X9.keeps F.keep) (by show 1 ≤ sizeLine; exact Nat.le_of_ble_eq_true rfl) fun h₁ e₁ hx => ?_
  obtain ⟨t₁, he₁, ht₁, -⟩ := hx.there
  have F' := F.keeps hx.keeps
  have N' : News h₀ L h₁ ((e₁, excO none t₁) :: news) := fun p hq => by
    rcases List.mem_cons.mp hq with rfl | hq
    · refine ⟨he₁, fun z => ?_, ?_⟩
      · obtain ⟨oL, es, ep, hL, _⟩ := F.ns
        have := hx.new
        dsimp only at z
        rw [z, hL] at this
        cases this
      · cases q : h₀.get? e₁ with
        | none => rfl
        | some o => have := F.keep _ _ q; rw [hx.new] at this; cases this
    · exact ⟨hx.keeps _ _ (N p hq).1, (N p hq).2⟩
  have off₁ : ∀ p ∈ news, p.1 ≠ e₁ := fun p hq z => by have := (N p hq).1; rw [z, hx.new] at this; cases this
  clear N F
  refine wpAny_call ?_
  k_dflt k_enter
  k_steps
  all_goals (rename Fr h₀ L _ _ => hF; rename News h₀ L _ _ => hN; (with_reducible rename ∀ (p : Addr × Obj), p ∈ (e₁, _) :: _ → _ => hlt))
  exact hret _ _ _ _ _ _ hF hN fun p hq => by
    rcases List.mem_cons.mp hq with rfl | hq
    · exact Nat.ne_of_gt (hlt _ (.head _))
    · exact off₁ p hq
end
-- NtRefused
section
open PySem PySem.W PySem.Spec PySem.Calls PyProof.Rows PySem.SeqAt
/-- a call that gives back True, whatever it leaves in the heap -/
abbrev ConR (w : World) (f : Addr) (vs : List Value) (news : Led) (dN : Nat) : Prop :=
  ∀ (mean : ExcName → Option Value) (mg mb : Str → Option Value) (dp un : Nat) (gd : Option (List Code)) (cn : Str) (cs : Scope) (a : Addr) (ccd : Value) (cl : List (Str × Addr)) (outer : List Env) (A₀ : Around) (base h₀ : Heap) (L : Addr) (m : Str → Option Value) (s : Shared) (Q E : Value → Shared → Prop),
    Below A₀ base outer h₀ → Fr h₀ L s.heap m → (Mine.pre.heap_1 w.params).In h₀ → News h₀ L s.heap news → Top Mine.pre.view_1 (looseW Mine.pre.view_1 [Str.ofString "HALF"]) mean mg mb h₀ → cs.kind = .function → dp + dN < recursionLimit → un + 8 * dN < cLine →
    (Mine.pre.heap_1 w.params).In base → Top Mine.pre.view_1 (looseW Mine.pre.view_1 [Str.ofString "HALF"]) mean mg mb base →
    (∀ (h' : Heap) (tk' : Nat), (∀ b o, base.get? b = some o → h'.get? b = some o) → Q (.bool true) { s with heap := h', toks := tk' }) →
    wpAny (model Challenge.rw_nt0553_01.row.prog w) (ktrTop dp un gd cn cs L a ccd cl outer) (call (.ref f) vs) Q E s
def RaiseEnd (w : World) (E : Value → Shared → Prop) (v : Value) (s₁ : Shared) : Prop := ∃ e dx t, v = .ref e ∧ (KK w).In s₁.heap ∧ s₁.heap.get? e = some (excO (some dx) t) ∧ E (.ref e) s₁
theorem RaiseEnd.intro {w : World} {E : Value → Shared → Prop} {h₀ : Heap} {L e dx t : Addr} {m : Str → Option Value} {s₁ : Shared} {all rest : Led} (F : Fr h₀ L s₁.heap m) (X : (KK w).In h₀) (N : News h₀ L s₁.heap all) (P : Pick (e, excO (some dx) t) all rest) (h : E (.ref e) s₁) : RaiseEnd w E (.ref e) s₁ :=
  ⟨e, dx, t, rfl, X.keeps F.keep, (nt_pick N P _ (.head _)).1, h⟩
theorem raise_RE {prog : Program} {w : World} {A : Around} {E : Value → Shared → Prop} {s : Shared} {env : Env} {x : PySem.Expr} {pos : Pos} {Q : Flow → Shared → Prop} (hh : A.handled = none) (h : wpAny (model prog w) A (eval x env) (RaiseEnd w E) E s) : wpAny (model prog w) A (exec (.Raise (some x) none pos) env) Q E s :=
  raise_R hh (wpAny_mono h (fun _ _ y => y) fun _ _ y => y)
theorem k_rname {w : World} : nsIn (KK w) mainGlobals (Str.ofString "RangeError") = some (some (.ref 51)) := by rfl
theorem k_find {w : World} {k : Tok} {v : Str} {t : Tok} : findObj (KK w) 51 (some (msgD w k (.str v t))) (Str.ofString "message") = some (.value (.str v t)) := by rfl
theorem r_msgN {prog : Program} {w : World} {A : Around} {E : Value → Shared → Prop} {s : Shared} {h₀ : Heap} {L e dx : Addr} {m : Str → Option Value} {news : Led} {o : Obj} {k : Tok} {v : Str} {t : Tok} {ex : Bool} {Q : Value → Shared → Prop}
    (F : Fr h₀ L s.heap m) (X : (KK w).In h₀) (N : News h₀ L s.heap news) (m1 : (e, o) ∈ news) (m2 : (dx, msgD w k (.str v t)) ∈ news) (h1 : o.cls = .ref 51) (h2 : o.dict = some dx) (h3 : notCls o = true) (hq : Q (.str v t) { s with toks := s.toks + 1 }) :
    wpAny (model prog w) A (getAttr (.ref e) (Str.ofString "message") ex) Q E s :=
  r_message (X.keeps F.keep) ⟨(N _ m1).1, h1, h3, by rw [h2]; exact (N _ m2).1⟩ k_find rfl hq
theorem c_refused_rgb (w : World) (news : Led) (X pl : Addr) (p : Int) (t : Tok) (hX : PicIn w news X (Str.ofString "rgb") p pl) : ConR w 318 [.ref X, .str (Str.ofString "ycck") t] news 60 := by
  w_top off
  k_with_none
  k_with "k_room" => skip
  k_with "units_room" => skip
  k_with "k_all" => ((repeat ((refine' List.forall_mem_cons.mpr ⟨?ha, ?_⟩); (case ha => k_ne))); (first | exact List.forall_mem_nil _ | assumption | exact off1_all (by assumption) | exact allLt_ne (by assumption) (by (try dsimp only); omega) | ((with_reducible rename _ ∧ AllLt _ _ => hx9); exact allLt_ne hx9.2 (by (try dsimp only); omega)) | ((with_reducible rename _ ∧ _ ∧ AllLt _ _ => hx9); exact allLt_ne hx9.2.2 (by (try dsimp only); omega)) | ((with_reducible rename _ ∧ _ ∧ _ ∧ AllLt _ _ => hx9); exact allLt_ne hx9.2.2.2 (by (try dsimp only); omega))))
  k_with "lcg_sub" => first | with_reducible assumption | ((with_reducible (repeat' (first | exact List.mem_cons_self | assumption | refine List.mem_cons_of_mem _ ?_))); done)
  k_with "k_mem" => first | with_reducible assumption | ((with_reducible (repeat' (first | exact List.mem_cons_self | assumption | refine List.mem_cons_of_mem _ ?_))); done)
  k_with "lcg_off" => first | exact True.intro | assumption | (refine And.intro (by first | assumption | exact ⟨by k_ne, by k_ne, by k_ne⟩) ?_; lcg_off)
  k_with "k_lt" => skip
  k_with "k_ne" => (refine neN ?_; (try dsimp only); first | with_reducible assumption | exact Ne.symm (by with_reducible assumption) | exact o_gt (by with_reducible assumption) (by lcg_sub) | exact o_1' (by with_reducible assumption) (by lcg_sub) | exact o_lt (by with_reducible assumption) (by lcg_sub) | exact o_1 (by with_reducible assumption) (by lcg_sub) | exact o_3I (by with_reducible assumption) (by lcg_sub) | exact Ne.symm (o_3I (by with_reducible assumption) (by lcg_sub)) | exact o_3C (by with_reducible assumption) (by lcg_sub) | exact Ne.symm (o_3C (by with_reducible assumption) (by lcg_sub)) | exact o_3D (by with_reducible assumption) (by lcg_sub) | exact Ne.symm (o_3D (by with_reducible assumption) (by lcg_sub)) | exact o_4I (by with_reducible assumption) (by lcg_sub) | exact Ne.symm (o_4I (by with_reducible assumption) (by lcg_sub)) | exact o_4C (by with_reducible assumption) (by lcg_sub) | exact Ne.symm (o_4C (by with_reducible assumption) (by lcg_sub)) | exact o_4X (by with_reducible assumption) (by lcg_sub) | exact Ne.symm (o_4X (by with_reducible assumption) (by lcg_sub)) | exact o_4D (by with_reducible assumption) (by lcg_sub) | exact Ne.symm (o_4D (by with_reducible assumption) (by lcg_sub)) | ((repeat (first | exact cn1 | exact cn2 | exact cn3 | exact cn4 | exact cn5 | exact cn6 | exact cn7 | exact Ne.symm cn1 | exact Ne.symm cn2 | exact Ne.symm cn3 | exact Ne.symm cn4 | exact Ne.symm cn5 | exact Ne.symm cn6 | exact Ne.symm cn7 | refine cnS ?_)); done))
  k_with "k_all" => ((repeat ((refine' List.forall_mem_cons.mpr ⟨?ha, ?_⟩); (case ha => k_ne))); (first | exact List.forall_mem_nil _ | with_reducible assumption | exact all_lt (by with_reducible assumption) (by (repeat' (first | with_reducible assumption | exact Sub.refl | refine Sub.cons ?_))) | exact all_1 (by with_reducible assumption) (by (repeat' (first | with_reducible assumption | exact Sub.refl | refine Sub.cons ?_))) | exact all_3I (by with_reducible assumption) (by (repeat' (first | with_reducible assumption | exact Sub.refl | refine Sub.cons ?_))) | exact all_3C (by with_reducible assumption) (by (repeat' (first | with_reducible assumption | exact Sub.refl | refine Sub.cons ?_))) | exact all_3D (by with_reducible assumption) (by (repeat' (first | with_reducible assumption | exact Sub.refl | refine Sub.cons ?_))) | exact all_4I (by with_reducible assumption) (by (repeat' (first | with_reducible assumption | exact Sub.refl | refine Sub.cons ?_))) | exact all_4C (by with_reducible assumption) (by (repeat' (first | with_reducible assumption | exact Sub.refl | refine Sub.cons ?_))) | exact all_4X (by with_reducible assumption) (by (repeat' (first | with_reducible assumption | exact Sub.refl | refine Sub.cons ?_))) | exact all_4D (by with_reducible assumption) (by (repeat' (first | with_reducible assumption | exact Sub.refl | refine Sub.cons ?_))) | exact allLt_ne (by with_reducible assumption) (by repeat (first | exact Nat.le_refl _ | refine Nat.le_succ_of_le ?_))))
  k_with "k_enter" => skip
  k_with "FinE" => ((unfold LCg.FinE); intro D' h' tk' F' N' o1'; (try simp only [List.nil_append, List.cons_append] at N'); (try dsimp only))
  k_with "FinA" => ((unfold LCg.FinA); intro D' h' tk' F' N' o1'; (try simp only [List.nil_append, List.cons_append] at N'); (try dsimp only))
  k_with "CompEnd" => (refine' nt_compEnd ?F ?N ?P1 ?P2 ?P3 ?off ?S ?_; (case F => assumption); (case N => assumption); (case P1 => repeat' (first | exact Pick.head | refine' Pick.tail ?_)); (case P2 => repeat' (first | exact Pick.head | refine' Pick.tail ?_)); (case P3 => repeat' (first | exact Pick.head | refine' Pick.tail ?_)); (case off => lcg_off); (case S => first | lcg_src | assumption))
  k_with "eval ListComp" => (k_here; (with_reducible show wpAny _ _ (eval (PySem.Expr.ListComp _ [⟨PySem.Expr.Name _ _, _, [], _⟩] _ _) _) _ _ _); (try k_fold); k_dflt (refine LCg.ListComp_U (F₀ := by k_asm) (by with_unfolding_all rfl) (by decide) (by rfl) (by decide) (by rfl) ?_))
  k_with "exec Assign cons ListComp" => (k_here; k_dflt (refine LCg.Assign_ListComp_U (F₀ := by k_asm) (by rfl) (by with_unfolding_all rfl) (by with_unfolding_all rfl) (by decide) (by rfl) (by decide) (by rfl) (by rfl) (by rfl) ?_))
  k_with "eval ListComp" => (k_here; (with_reducible show wpAny _ _ (eval (PySem.Expr.ListComp _ [⟨PySem.Expr.Name _ _, _, [_], _⟩] _ _) _) _ _ _); (try k_fold); k_dflt (refine LCt.ListComp_T (F₀ := by k_asm) (by with_unfolding_all rfl) (by decide) (by rfl) (by decide) (by rfl) ?_))
  k_with "CompSrcT" => (k_here; k_dflt (first | (refine LCt.CompSrcT.ledger (by rfl) (by k_asm) (by k_asm) (by lcg_sub) (by first | exact Nat.le_of_ble_eq_true rfl | size_fits) ?_; intro g'; lct_lit) | (refine LCt.CompSrcT.range (by rfl) (by k_asm) (by k_asm) (by assumption) (by first | decide | rfl) (by first | rfl | decide) (by first | exact Nat.le_of_ble_eq_true rfl | size_fits) ?_; intro g'; lct_lit)))
  k_with "CompRestT" => (with_unfolding_all first | (refine LCt.CompRestT.succ ?_; intro v' I' oI' C' oC' D' m' h' tk' E' hv' hC' hx' F' N' off' ne'; (first | lcg_open hv' | (obtain ⟨t9', hv9'⟩ := hv'; subst hv9')); (obtain ⟨ne1', ne2', ne3'⟩ := ne')) | refine LCt.CompRestT.zero ?_)
  k_with "CompSrc" => (k_here; k_dflt (first | (refine LCg.CompSrc.ledger (by rfl) (by k_asm) (by k_asm) (by lcg_sub) (by first | exact Nat.le_of_ble_eq_true rfl | size_fits) ?_; intro g'; lcg_lit) | (refine LCg.CompSrc.range (by rfl) (by k_asm) (by k_asm) (by assumption) (by first | decide | rfl) (by first | rfl | decide) (by first | exact Nat.le_of_ble_eq_true rfl | size_fits) ?_; intro g'; lcg_lit)))
  k_with "CompRest" => (with_unfolding_all first | (refine LCg.CompRest.succ ?_; intro v' I' oI' C' oC' D' m' h' tk' E' hv' hC' hx' F' N' off' ne'; (first | lcg_open hv' | (obtain ⟨t9', hv9'⟩ := hv'; subst hv9')); (obtain ⟨ne1', ne2', ne3'⟩ := ne')) | refine LCg.CompRest.zero ?_)
  k_with "execs cons" => ((with_reducible refine gen_toks (fun tk => ?_)); (with_reducible refine wpAny_execs_cons ?_); (try dsimp only); (try k_fold))
  k_with "subscriptTail" => (k_here; (with_reducible show wpAny _ _ (subscriptTail _ _ (Value.ref _) (Value.int _ _)) _ _ _); k_dflt (first | (refine' nt_item ?N ?hm ?k2 ?k3 ?k4 ?_ ?k6; (case N => k_asm); (case hm => lcg_sub); (case k2 => decide); (case k3 => decide); (case k4 => exact rfl); (case k6 => with_unfolding_all rfl); k_whole) | (refine' nt_itemK ?X ?F ?hl ?k2 ?k3 ?k4 ?_ ?k6 ?k7; (case F => k_asm); (case X => k_asm); (case hl => k_is); (case k2 => decide); (case k3 => decide); (case k4 => exact rfl); (case k6 => with_unfolding_all rfl); (case k7 => intro _; with_unfolding_all rfl); k_whole) | (refine' nt_itemT ?N ?hm ?k2 ?k3 ?k4 ?_ ?k6 ?k7; (case N => k_asm); (case hm => lcg_sub); (case k2 => decide); (case k3 => decide); (case k4 => exact rfl); (case k6 => with_unfolding_all rfl); (case k7 => intro _; with_unfolding_all rfl); k_whole)))
  k_with "subscriptTail Name Constant ref int" => (k_here; (with_reducible show wpAny _ _ (subscriptTail _ _ (Value.ref _) (Value.int _ _)) _ _ _); k_dflt (first | (refine' nt_item ?N ?hm ?k2 ?k3 ?k4 ?_ ?k6; (case N => k_asm); (case hm => lcg_sub); (case k2 => decide); (case k3 => decide); (case k4 => exact rfl); (case k6 => with_unfolding_all rfl); k_whole) | (refine' nt_itemK ?X ?F ?hl ?k2 ?k3 ?k4 ?_ ?k6 ?k7; (case F => k_asm); (case X => k_asm); (case hl => k_is); (case k2 => decide); (case k3 => decide); (case k4 => exact rfl); (case k6 => with_unfolding_all rfl); (case k7 => intro _; with_unfolding_all rfl); k_whole) | (refine' nt_itemT ?N ?hm ?k2 ?k3 ?k4 ?_ ?k6 ?k7; (case N => k_asm); (case hm => lcg_sub); (case k2 => decide); (case k3 => decide); (case k4 => exact rfl); (case k6 => with_unfolding_all rfl); (case k7 => intro _; with_unfolding_all rfl); k_whole)))
  k_with "subscriptTail Name Name ref int" => (k_here; (with_reducible show wpAny _ _ (subscriptTail _ _ (Value.ref _) (Value.int _ _)) _ _ _); k_dflt (first | (refine' nt_item ?N ?hm ?k2 ?k3 ?k4 ?_ ?k6; (case N => k_asm); (case hm => lcg_sub); (case k2 => decide); (case k3 => decide); (case k4 => exact rfl); (case k6 => with_unfolding_all rfl); k_whole) | (refine' nt_itemK ?X ?F ?hl ?k2 ?k3 ?k4 ?_ ?k6 ?k7; (case F => k_asm); (case X => k_asm); (case hl => k_is); (case k2 => decide); (case k3 => decide); (case k4 => exact rfl); (case k6 => with_unfolding_all rfl); (case k7 => intro _; with_unfolding_all rfl); k_whole) | (refine' nt_itemT ?N ?hm ?k2 ?k3 ?k4 ?_ ?k6 ?k7; (case N => k_asm); (case hm => lcg_sub); (case k2 => decide); (case k3 => decide); (case k4 => exact rfl); (case k6 => with_unfolding_all rfl); (case k7 => intro _; with_unfolding_all rfl); k_whole)))
  k_with "subscriptTail Attribute Name Constant ref int" => (k_here; (with_reducible show wpAny _ _ (subscriptTail _ _ (Value.ref _) (Value.int _ _)) _ _ _); k_dflt (first | (refine' nt_item ?N ?hm ?k2 ?k3 ?k4 ?_ ?k6; (case N => k_asm); (case hm => lcg_sub); (case k2 => decide); (case k3 => decide); (case k4 => exact rfl); (case k6 => with_unfolding_all rfl); k_whole) | (refine' nt_itemK ?X ?F ?hl ?k2 ?k3 ?k4 ?_ ?k6 ?k7; (case F => k_asm); (case X => k_asm); (case hl => k_is); (case k2 => decide); (case k3 => decide); (case k4 => exact rfl); (case k6 => with_unfolding_all rfl); (case k7 => intro _; with_unfolding_all rfl); k_whole) | (refine' nt_itemT ?N ?hm ?k2 ?k3 ?k4 ?_ ?k6 ?k7; (case N => k_asm); (case hm => lcg_sub); (case k2 => decide); (case k3 => decide); (case k4 => exact rfl); (case k6 => with_unfolding_all rfl); (case k7 => intro _; with_unfolding_all rfl); k_whole)))
  k_with "subscriptTail Attribute Name Name ref int" => (k_here; (with_reducible show wpAny _ _ (subscriptTail _ _ (Value.ref _) (Value.int _ _)) _ _ _); k_dflt (first | (refine' nt_item ?N ?hm ?k2 ?k3 ?k4 ?_ ?k6; (case N => k_asm); (case hm => lcg_sub); (case k2 => decide); (case k3 => decide); (case k4 => exact rfl); (case k6 => with_unfolding_all rfl); k_whole) | (refine' nt_itemK ?X ?F ?hl ?k2 ?k3 ?k4 ?_ ?k6 ?k7; (case F => k_asm); (case X => k_asm); (case hl => k_is); (case k2 => decide); (case k3 => decide); (case k4 => exact rfl); (case k6 => with_unfolding_all rfl); (case k7 => intro _; with_unfolding_all rfl); k_whole) | (refine' nt_itemT ?N ?hm ?k2 ?k3 ?k4 ?_ ?k6 ?k7; (case N => k_asm); (case hm => lcg_sub); (case k2 => decide); (case k3 => decide); (case k4 => exact rfl); (case k6 => with_unfolding_all rfl); (case k7 => intro _; with_unfolding_all rfl); k_whole)))
  k_with "subscriptTail Subscript Name ref int" => (k_here; (with_reducible show wpAny _ _ (subscriptTail _ _ (Value.ref _) (Value.int _ _)) _ _ _); k_dflt (first | (refine' nt_item ?N ?hm ?k2 ?k3 ?k4 ?_ ?k6; (case N => k_asm); (case hm => lcg_sub); (case k2 => decide); (case k3 => decide); (case k4 => exact rfl); (case k6 => with_unfolding_all rfl); k_whole) | (refine' nt_itemK ?X ?F ?hl ?k2 ?k3 ?k4 ?_ ?k6 ?k7; (case F => k_asm); (case X => k_asm); (case hl => k_is); (case k2 => decide); (case k3 => decide); (case k4 => exact rfl); (case k6 => with_unfolding_all rfl); (case k7 => intro _; with_unfolding_all rfl); k_whole) | (refine' nt_itemT ?N ?hm ?k2 ?k3 ?k4 ?_ ?k6 ?k7; (case N => k_asm); (case hm => lcg_sub); (case k2 => decide); (case k3 => decide); (case k4 => exact rfl); (case k6 => with_unfolding_all rfl); (case k7 => intro _; with_unfolding_all rfl); k_whole)))
  k_with "subscriptTail Subscript Constant ref int" => (k_here; (with_reducible show wpAny _ _ (subscriptTail _ _ (Value.ref _) (Value.int _ _)) _ _ _); k_dflt (first | (refine' nt_item ?N ?hm ?k2 ?k3 ?k4 ?_ ?k6; (case N => k_asm); (case hm => lcg_sub); (case k2 => decide); (case k3 => decide); (case k4 => exact rfl); (case k6 => with_unfolding_all rfl); k_whole) | (refine' nt_itemK ?X ?F ?hl ?k2 ?k3 ?k4 ?_ ?k6 ?k7; (case F => k_asm); (case X => k_asm); (case hl => k_is); (case k2 => decide); (case k3 => decide); (case k4 => exact rfl); (case k6 => with_unfolding_all rfl); (case k7 => intro _; with_unfolding_all rfl); k_whole) | (refine' nt_itemT ?N ?hm ?k2 ?k3 ?k4 ?_ ?k6 ?k7; (case N => k_asm); (case hm => lcg_sub); (case k2 => decide); (case k3 => decide); (case k4 => exact rfl); (case k6 => with_unfolding_all rfl); (case k7 => intro _; with_unfolding_all rfl); k_whole)))
  k_with "setItem ref int" => (k_here; k_dflt (refine' ki_set ?F ?N ?k2 ?k3 ?k4 ?U ?_; (case F => k_asm); (case N => k_asm); (case U => k_upd); (case k2 => decide); (case k3 => decide); (case k4 => exact rfl); k_whole); intro h' F' N'; (try k_sweep))
  k_with "eval Name" => (k_here; (with_reducible show wpAny _ _ (eval (Expr.Name _ _) (envOf _ _ _ _ _)) _ _ _); (with_reducible rename Fr _ _ _ _ => kF); k_dflt (first | (name_kind "local"; (refine' ld kF ?k2 ?_ ?a ?b ?c; (case k2 => exact rfl); (case a => kernel_rfl!); (case b => kernel_rfl!); (case c => decide +kernel)); k_whole) | (name_kind "globalImplicit"; (refine' name_K kF ?k1 ?k2 ?k3 ?_ ?a ?b ?c; (case k1 => k_asm); (case k2 => k_asm); (case k3 => k_is); (case a => kernel_rfl!); (case b => kernel_rfl!); (case c => decide +kernel); k_whole)) | (refine' name_B kF ?k1 ?k2 ?k3 ?k4 ?k5 ?_; (case k1 => k_asm); (case k2 => k_asm); (case k3 => k_is); (case k4 => boot_by_name); (case k5 => decide); k_whole)))
  k_with "compareOp NotEq ref ref" => (k_here; k_dflt (first | (with_reducible refine' ne_t3 ?N ?ha ?hb ?e1 ?e2 ?e3 ?hu ?_; (case N => k_asm); (case ha => lcg_sub); (case hb => lcg_sub); (case e1 => first | assumption | exact (Grey.h (by assumption) (by assumption) (by assumption)).1 | exact (Grey2.h (by assumption) (by assumption) (by assumption)).1 | rfl); (case e2 => first | assumption | exact (Grey.h (by assumption) (by assumption) (by assumption)).2.1 | exact (Grey2.h (by assumption) (by assumption) (by assumption)).2.1 | rfl); (case e3 => first | assumption | exact (Grey.h (by assumption) (by assumption) (by assumption)).2.2 | exact (Grey2.h (by assumption) (by assumption) (by assumption)).2.2 | rfl); (case hu => units_room)) | (with_reducible refine' ne_l3 ?N ?ha ?hb ?e1 ?e2 ?e3 ?hu ?_; (case N => k_asm); (case ha => lcg_sub); (case hb => lcg_sub); (case e1 => first | assumption | exact (Grey.h (by assumption) (by assumption) (by assumption)).1 | exact (Grey2.h (by assumption) (by assumption) (by assumption)).1 | rfl); (case e2 => first | assumption | exact (Grey.h (by assumption) (by assumption) (by assumption)).2.1 | exact (Grey2.h (by assumption) (by assumption) (by assumption)).2.1 | rfl); (case e3 => first | assumption | exact (Grey.h (by assumption) (by assumption) (by assumption)).2.2 | exact (Grey2.h (by assumption) (by assumption) (by assumption)).2.2 | rfl); (case hu => units_room)) | (with_reducible refine' ne_l0 ?N ?ha ?hb ?hu ?_; (case N => k_asm); (case ha => lcg_sub); (case hb => lcg_sub); (case hu => units_room))))
  k_with "compareOp Eq ref ref" => (k_here; k_dflt ((with_reducible refine' eq_l0 ?N ?ha ?hb ?hu ?_; (case N => k_asm); (case ha => lcg_sub); (case hb => lcg_sub); (case hu => units_room))))
  k_with "eval Call" => ((with_reducible show wpAny _ _ (eval (Expr.Call (Expr.Name _ _) _ [] _) (envOf _ _ _ _ _)) _ _ _); k_dflt (refine Call_ ?_))
  k_with "call ref" => (k_here; (with_reducible show wpAny _ _ (call (Value.ref 239) _) _ _ _); k_dflt (refine' Con.use (c_is_rgb_ycck _ _ _ _) ?B ?F ?X ?N ?T ?hk ?hd ?hu ?_; (case F => k_asm); (case N => k_asm); (case T => k_asm); (case X => k_asm); (case B => k_asm); (case hk => first | exact rfl | assumption); (case hd => ktr_room); (case hu => ktr_units); k_whole); intro h' tk' F' N'; (try k_sweep))
  k_with "call ref" => (k_here; (with_reducible show wpAny _ _ (call (Value.ref 239) _) _ _ _); k_dflt (refine' Con.use (c_is_grey_ycck _ _ _ _) ?B ?F ?X ?N ?T ?hk ?hd ?hu ?_; (case F => k_asm); (case N => k_asm); (case T => k_asm); (case X => k_asm); (case B => k_asm); (case hk => first | exact rfl | assumption); (case hd => ktr_room); (case hu => ktr_units); k_whole); intro h' tk' F' N'; (try k_sweep))
  k_with "call ref" => (k_here; (with_reducible show wpAny _ _ (call (Value.ref 239) _) _ _ _); k_dflt (refine' Con.use (c_is_cmyk_ycc _ _ _ _) ?B ?F ?X ?N ?T ?hk ?hd ?hu ?_; (case F => k_asm); (case N => k_asm); (case T => k_asm); (case X => k_asm); (case B => k_asm); (case hk => first | exact rfl | assumption); (case hd => ktr_room); (case hu => ktr_units); k_whole); intro h' tk' F' N'; (try k_sweep))
  k_with "call ref" => (k_here; (with_reducible show wpAny _ _ (call (Value.ref 51) _) _ _ _); k_dflt (refine' Con.use (c_exc _ _ _ _) ?B ?F ?X ?N ?T ?hk ?hd ?hu ?_; (case F => k_asm); (case N => k_asm); (case T => k_asm); (case X => k_asm); (case B => k_asm); (case hk => first | exact rfl | assumption); (case hd => ktr_room); (case hu => ktr_units); k_whole); intro e' dx' t2' k2' h' tk' F' N' o1'; (try k_sweep))
  k_with "exec Raise some none" => (k_here; k_dflt (refine raise_RE (by first | rfl | assumption) ?_))
  k_with "RaiseEnd" => (refine' RaiseEnd.intro ?F ?X ?N ?P ?_; (case F => k_asm); (case X => k_asm); (case N => k_asm); (case P => exact Pick.head))
  k_with "leaving ref" => (k_here; k_dflt (refine' leave_R ?k1 ?k2 ?k3 ?k4 ?k5 ?_; (case k1 => assumption); (case k2 => k_asm); (case k3 => k_asm); (case k4 => exact Pick.head); (case k5 => assumption)); k_whole; intro h' R' U'; (try dsimp only at R' U' ⊢))
  k_with "noteFrame ref" => (k_here; (rename RaisedR _ _ _ _ _ _ _ => rsX); k_dflt (refine' caught_R rsX ?hm ?F ?K ?U ?XB ?TB ?ex ?_; (case hm => k_mem); (case F => assumption); (case K => assumption); (case U => assumption); (case XB => assumption); (case TB => assumption); (case ex => exact k_rname)); k_whole; intro h' g' tk' oe' F' N' c1' c2' c3' K' X' T'; (try dsimp only))
  k_with "getAttr ref" => (k_here; (with_reducible show wpAny _ _ (getAttr (Value.ref _) (Str.ofString "message") _) _ _ _); k_dflt (refine' r_msgN ?F ?X ?N ?m1 ?m2 ?h1 ?h2 ?h3 ?_; (case F => k_asm); (case X => k_asm); (case N => k_asm); (case m1 => exact .head _); (case m2 => exact .tail _ (.head _)); (case h1 => assumption); (case h2 => assumption); (case h3 => assumption)))
  unfold ConR
  k_fill
  intro mean mg mb dp un gd cn cs aa ccd cl outer A₀ base h₀ L m s Q E B F X9 N T9 hk hd hu XB TB hret
  obtain ⟨dX, taX, tpX, k1X, k2X, k3X, mX1, mX2⟩ := hX
  refine wpAny_call ?_
  k_dflt (refine' code_defE ?k1 ?k2 ?k3 ?k4 ?k5 ?kA ?kF ?kK ?k6 ?k7 ?k8 ?k9 ?kB ?_ ?c2 ?c3 ?c4 ?c5; (case kA => exact rfl); (case kF => exact rfl); (case kK => first | exact rfl | assumption); (case k1 => k_asm); (case k2 => k_asm); (case k3 => k_asm); (case k4 => k_asm); (case k5 => k_asm); (case k6 => k_is); (case k7 => k_is); (case k8 => k_room); (case k9 => first | exact BindsTo.of_eq rfl | exact binds_K (by k_in) rfl (by k_is) rfl rfl rfl | fail "k_enter: no rule for these arguments"); (case c5 => decide); (case kB => exact locs rfl); (case c2 => exact rfl); (case c3 => exact rfl); (case c4 => exact rfl); k_whole; intro g' L' h' FG' F' N' B' X' T'; (try dsimp only); (try k_lift B'); (try k_fold))
  k_steps
  have e9 : (Str.ofString "no way from " ++ Str.ofString "rgb" ++ Str.ofString " to " ++ Str.ofString "ycck" != Str.ofString "") = true := by decide +kernel
  rw [e9]
  all_goals (rename Fr _ _ _ _ => hFz; rename Below _ _ _ _ => hBz)
  exact hret _ _ fun b o e => hFz.keep b o (hBz.stays b o e)
theorem c_refused_grey (w : World) (news : Led) (X pl : Addr) (p : Int) (t : Tok) (hX : PicIn w news X (Str.ofString "grey") p pl) : ConR w 318 [.ref X, .str (Str.ofString "ycck") t] news 60 := by
  unfold ConR
  k_fill
  intro mean mg mb dp un gd cn cs aa ccd cl outer A₀ base h₀ L m s Q E B F X9 N T9 hk hd hu XB TB hret
  obtain ⟨dX, taX, tpX, k1X, k2X, k3X, mX1, mX2⟩ := hX
  refine wpAny_call ?_
  k_dflt (refine' code_defE ?k1 ?k2 ?k3 ?k4 ?k5 ?kA ?kF ?kK ?k6 ?k7 ?k8 ?k9 ?kB ?_ ?c2 ?c3 ?c4 ?c5; (case kA => exact rfl); (case kF => exact rfl); (case kK => first | exact rfl | assumption); (case k1 => k_asm); (case k2 => k_asm); (case k3 => k_asm); (case k4 => k_asm); (case k5 => k_asm); (case k6 => k_is); (case k7 => k_is); (case k8 => k_room); (case k9 => first | exact BindsTo.of_eq rfl | exact binds_K (by k_in) rfl (by k_is) rfl rfl rfl | fail "k_enter: no rule for these arguments"); (case c5 => decide); (case kB => exact locs rfl); (case c2 => exact rfl); (case c3 => exact rfl); (case c4 => exact rfl); k_whole; intro g' L' h' FG' F' N' B' X' T'; (try dsimp only); (try k_lift B'); (try k_fold))
  k_steps
  have e9 : (Str.ofString "no way from " ++ Str.ofString "grey" ++ Str.ofString " to " ++ Str.ofString "ycck" != Str.ofString "") = true := by decide +kernel
  rw [e9]
  all_goals (rename Fr _ _ _ _ => hFz; rename Below _ _ _ _ => hBz)
  exact hret _ _ fun b o e => hFz.keep b o (hBz.stays b o e)
theorem c_refused_cmyk (w : World) (news : Led) (X pl : Addr) (p : Int) (t : Tok) (hX : PicIn w news X (Str.ofString "cmyk") p pl) : ConR w 318 [.ref X, .str (Str.ofString "ycc") t] news 60 := by
  unfold ConR
  k_fill
  intro mean mg mb dp un gd cn cs aa ccd cl outer A₀ base h₀ L m s Q E B F X9 N T9 hk hd hu XB TB hret
  obtain ⟨dX, taX, tpX, k1X, k2X, k3X, mX1, mX2⟩ := hX
  refine wpAny_call ?_
  k_dflt (refine' code_defE ?k1 ?k2 ?k3 ?k4 ?k5 ?kA ?kF ?kK ?k6 ?k7 ?k8 ?k9 ?kB ?_ ?c2 ?c3 ?c4 ?c5; (case kA => exact rfl); (case kF => exact rfl); (case kK => first | exact rfl | assumption); (case k1 => k_asm); (case k2 => k_asm); (case k3 => k_asm); (case k4 => k_asm); (case k5 => k_asm); (case k6 => k_is); (case k7 => k_is); (case k8 => k_room); (case k9 => first | exact BindsTo.of_eq rfl | exact binds_K (by k_in) rfl (by k_is) rfl rfl rfl | fail "k_enter: no rule for these arguments"); (case c5 => decide); (case kB => exact locs rfl); (case c2 => exact rfl); (case c3 => exact rfl); (case c4 => exact rfl); k_whole; intro g' L' h' FG' F' N' B' X' T'; (try dsimp only); (try k_lift B'); (try k_fold))
  k_steps
  have e9 : (Str.ofString "no way from " ++ Str.ofString "cmyk" ++ Str.ofString " to " ++ Str.ofString "ycc" != Str.ofString "") = true := by decide +kernel
  rw [e9]
  all_goals (rename Fr _ _ _ _ => hFz; rename Below _ _ _ _ => hBz)
  exact hret _ _ fun b o e => hFz.keep b o (hBz.stays b o e)
end
-- NtMap
section
open PySem PySem.W PySem.Spec PySem.Calls PyProof.Rows PySem.SeqAt PyProof.Rows.LCg
theorem off3_sub {I C D : Addr} {l T : Led} (h : Off3 I C D l) (s : Sub T l) : Off3 I C D T := Off3.of fun p hp => h.mem p (s p hp)
theorem off4_sub {I C X D : Addr} {l T : Led} (h : Off4 I C X D l) (s : Sub T l) : Off4 I C X D T := Off4.of fun p hp => h.mem p (s p hp)
theorem Sub.app {a b X : Led} (h : Sub a b) : Sub a (X ++ b) := fun q hq => List.mem_append_right _ (h q hq)
section
variable {prog : Program} {w : World} {A : Around} {s : Shared} {h₀ : Heap} {L : Addr} {m : Str → Option Value} {env : Env}
/-- an element that only reads -/
def Reading (h : Heap) (s : Shared) (V : Value → Prop) (y : Value) (s₂ : Shared) : Prop := V y ∧ ∃ tk, s₂ = { s with heap := h, toks := tk }
theorem Reading.intro {h : Heap} {s : Shared} {V : Value → Prop} {y : Value} {tk : Tok} (e : V y) : Reading h s V y { s with heap := h, toks := tk } := ⟨e, tk, rfl⟩
/-- a list of values, each as its place says -/
def Each (V : Nat → Value → Prop) (ys : List Value) : Prop := ∀ i y, ys[i]? = some y → V i y
theorem each_snoc {V : Nat → Value → Prop} {ys : List Value} {y : Value} (h : Each V ys) (hy : V ys.length y) : Each V (ys ++ [y]) := fun i z e => by
  by_cases hi : i < ys.length
  · exact h i z (by rw [List.getElem?_append_left hi] at e; exact e)
  · rw [List.getElem?_append_right (Nat.not_lt.mp hi)] at e
    have : i - ys.length = 0 := by
      cases q : i - ys.length with
      | zero => rfl
      | succ n => rw [q] at e; simp at e
    have hi' : i = ys.length := by omega
    rw [this] at e
    simp at e
    subst e
    exact hi' ▸ hy
theorem map_rest {elt : PySem.Expr} {x : Str} {scope : Scope} {cl : List (Str × Addr)} {S : Led → Prop} {P : Nat → Value → Prop} {V : Nat → Value → Prop} {Fin : List Value → Led → Prop} {news : Led} {n : Nat}
    (hS : S news) (turn : ∀ i v I oI C oC D oD m₂ h tk (E' : Value → Shared → Prop), i < n → P i v → NsObj oC m₂ → m₂ x = some v → Fr h₀ L h m → News h₀ L h ((I, oI) :: (C, oC) :: (D, oD) :: news) →
      wpAny (model prog w) A (eval elt (compEnvC scope cl C env)) (Reading h s (V i)) E' { s with heap := h, toks := tk })
    (fin : ∀ ys, ys.length = n → Each V ys → Fin ys news) : ∀ (k i : Nat) (ys : List Value), i + k = n → ys.length = i → Each V ys → CompRest prog w A h₀ L m env elt x scope cl s S P Fin k i ys news
  | 0, i, ys, h1, h2, h3 => CompRest.zero (fin ys (by omega) h3)
  | k + 1, i, ys, h1, h2, h3 => CompRest.succ fun v I oI C oC D m₂ h tk E' hv hC hx F N off ne =>
    wpAny_mono (turn i v I oI C oC D _ m₂ h tk E' (by omega) hv hC hx F N) (fun y s₂ hr => by
      obtain ⟨hV, tk', rfl⟩ := hr
      exact ⟨h, tk', news, rfl, F, N, off, hS, map_rest hS turn fin k (i + 1) (ys ++ [y]) (by omega) (by rw [List.length_append, h2]; rfl) (each_snoc h3 (h2 ▸ hV))⟩) fun _ _ e => e
theorem map_all {elt : PySem.Expr} {x : Str} {scope : Scope} {cl : List (Str × Addr)} {S : Led → Prop} {P : Nat → Value → Prop} (V : Nat → Value → Prop) {Fin : List Value → Led → Prop} {news : Led} {n : Nat}
    (hS : S news) (turn : ∀ i v I oI C oC D oD m₂ h tk (E' : Value → Shared → Prop), i < n → P i v → NsObj oC m₂ → m₂ x = some v → Fr h₀ L h m → News h₀ L h ((I, oI) :: (C, oC) :: (D, oD) :: news) →
      wpAny (model prog w) A (eval elt (compEnvC scope cl C env)) (Reading h s (V i)) E' { s with heap := h, toks := tk })
    (fin : ∀ ys, ys.length = n → Each V ys → Fin ys news) : CompRest prog w A h₀ L m env elt x scope cl s S P Fin n 0 [] news :=
  map_rest hS turn fin n 0 [] (Nat.zero_add n) rfl fun _ _ e => nomatch e
theorem src_map {elt : PySem.Expr} {x : Str} {scope : Scope} {cl : List (Str × Addr)} (V : Nat → Value → Prop) {Fin : Shared → List Value → Led → Prop} {ax : Addr} {its : List Value} {k : Nat} {news : Led} (hh : A.handled = none) (F : Fr h₀ L s.heap m) (N : News h₀ L s.heap news)
    (hm : (ax, listOf its.toArray k) ∈ news) (hsz : its.length ≤ sizeLine)
    (turn : ∀ i v I oI C oC D oD m₂ h tk (E' : Value → Shared → Prop), i < its.length → its[i]? = some v → NsObj oC m₂ → m₂ x = some v → Fr h₀ L h m → News h₀ L h ((I, oI) :: (C, oC) :: (D, oD) :: news) →
      wpAny (model prog w) A (eval elt (compEnvC scope cl C env)) (Reading h s (V i)) E' { s with heap := h, toks := tk })
    (fin : ∀ g ys, ys.length = its.length → Each V ys → Fin { s with heap := g } ys news) : CompSrc prog w A h₀ L m env elt x scope cl Fin (.ref ax) s :=
  CompSrc.ledger hh F N hm (by rw [List.size_toArray]; exact hsz) fun g => by
    rw [List.size_toArray]
    exact map_all V (.inr ⟨_, hm, rfl, _, rfl⟩) (fun i v I oI C oC D oD m₂ h tk E' hi hv hC hx F N => turn i v I oI C oC D oD m₂ h tk E' hi (by simpa using hv) hC hx F N) (fin g)
end
end
-- NtTpG
section
open PySem PySem.W PySem.Spec PySem.Calls PyProof.Rows PySem.SeqAt PyProof.Rows.LCg
def Ints (f : Nat → Int) (ys : List Value) : Prop := Each (fun i y => ∃ t, y = .int (f i) t) ys
/-- what a turning is asked, K samples to J -/
def SampG (w : World) (news : Led) (tu : Addr) (K J : Nat) (Ok : (Nat → Int) → Prop) (R : (Nat → Int) → (Nat → Int) → Prop) : Prop :=
  ∀ (news' : Led) (l : Addr) (ys : List Value) (c : Nat) (f : Nat → Int), Sub news news' → (l, listOf ys.toArray c) ∈ news' → ys.length = K → Ints f ys → Ok f →
    Con w 225 [.ref tu, .ref l] news' 6 (fun h₀ L m Q => ∀ (D : Addr) (os : List Value) (g : Nat → Int) (c : Nat) (h' : Heap) (tk' : Nat), os.length = J → Ints g os → R f g → Fr h₀ L h' m → News h₀ L h' ((D, tupOf os.toArray c) :: news') → AllLt D news' → Q (.ref D) h' tk')
theorem SampG.use {w : World} {news : Led} {tu : Addr} {K J : Nat} {Ok : (Nat → Int) → Prop} {R : (Nat → Int) → (Nat → Int) → Prop} (S : SampG w news tu K J Ok R) {news' : Led} {l : Addr} {ys : List Value} {c : Nat} {f : Nat → Int} (s : Sub news news') (h : (l, listOf ys.toArray c) ∈ news') (hl : ys.length = K) (hi : Ints f ys) (ok : Ok f) :
    Con w 225 [.ref tu, .ref l] news' 6 (fun h₀ L m Q => ∀ (D : Addr) (os : List Value) (g : Nat → Int) (c : Nat) (h' : Heap) (tk' : Nat), os.length = J → Ints g os → R f g → Fr h₀ L h' m → News h₀ L h' ((D, tupOf os.toArray c) :: news') → AllLt D news' → Q (.ref D) h' tk') := S _ _ _ _ _ s h hl hi ok
theorem nt_lenT {prog : Program} {w : World} {A : Around} {E : Value → Shared → Prop} {s : Shared} {h₀ : Heap} {L t : Addr} {news : Led} {os : List Value} {c J : Nat} {Q : Value → Shared → Prop} (N : News h₀ L s.heap news) (hm : (t, tupOf os.toArray c) ∈ news) (hl : os.length = J) (hJ : J ≤ 4)
    (h : Q (.int (J : Int) (s.toks + 1)) { s with toks := s.toks + 1 + 1 }) : wpAny (model prog w) A (call (.builtin "len") [.ref t]) Q E s :=
  len_tuple ⟨_, (N _ hm).1, rfl, _, rfl⟩ (by rw [List.size_toArray, hl]; omega) (by rw [List.size_toArray, hl]; exact h)
theorem small_J {J : Nat} (h : 1 ≤ J ∧ J ≤ 4) : Builtin.Range.small 0 (J : Int) 1 = true ∧ Builtin.Range.rangeSize 0 (J : Int) 1 = ((J : Nat) : Int) ∧ J ≤ sizeLine := by
  have : J = 1 ∨ J = 2 ∨ J = 3 ∨ J = 4 := by omega
  rcases this with rfl | rfl | rfl | rfl <;> exact ⟨by decide, by decide, Nat.le_of_ble_eq_true rfl⟩
/-- planes of two by two, any number -/
def Planes (w : World) (news : Led) (d : Nat → Nat → Int) (ps : List Value) : Prop := ∀ i v, ps[i]? = some v → ∃ P, v = .ref P ∧ PlaneIn w news P (d i 0) (d i 1) (d i 2) (d i 3)
theorem rest_ind {prog : Program} {w : World} {A : Around} {h₀ : Heap} {L : Addr} {m : Str → Option Value} {env : Env} {elt : PySem.Expr} {x : Str} {scope : Scope} {cl : List (Str × Addr)} {s : Shared} {Fin : List Value → Led → Prop} {n : Nat} {a : Int} (Inv : Nat → List Value → Led → Prop)
    (turn : ∀ i ys T, i < n → Inv i ys T → ∀ t I oI C oC X oX D h tk (E' : Value → Shared → Prop), oX.data = .cell (some (.int (a + (i : Int)) t)) → Fr h₀ L h m → News h₀ L h ((I, oI) :: (C, oC) :: (X, oX) :: (D, lst ys) :: T) → Off4 I C X D T →
      ((@Ne Nat I C) ∧ (@Ne Nat I X) ∧ (@Ne Nat I D) ∧ (@Ne Nat C X) ∧ (@Ne Nat C D) ∧ (@Ne Nat X D)) →
      wpAny (model prog w) A (eval elt (compEnvC scope ((x, X) :: cl) C env)) (EndX h₀ L m { s with heap := h, toks := tk } I oI C oC X oX D (lst ys) (Inv (i + 1) |> fun J y => J (ys ++ [y]))) E' { s with heap := h, toks := tk })
    (fin : ∀ ys T, Inv n ys T → Fin ys T) : ∀ (k i : Nat) (ys : List Value) (T : Led), i + k = n → Inv i ys T → RestX prog w A h₀ L m env elt x scope cl s Fin k (a + (i : Int)) ys T
  | 0, i, ys, T, h1, h2 => RestX.zero (fin _ _ ((by omega : i = n) ▸ h2))
  | k + 1, i, ys, T, h1, h2 => RestX.succ fun t I oI C oC X oX D h tk E' hX F N off ne => wpAny_mono (turn i ys T (by omega) h2 t I oI C oC X oX D h tk E' hX F N off ne) (fun y s₂ hr => by
      obtain ⟨h', tk', news', e, F', N', off', r⟩ := hr
      refine ⟨h', tk', news', e, F', N', off', ?_⟩
      have q := rest_ind Inv turn fin k (i + 1) (ys ++ [y]) news' (by omega) r
      rw [show a + (i : Int) + 1 = a + ((i + 1 : Nat) : Int) by omega]
      exact q) fun _ _ e => e
theorem planes_snoc {w : World} {T T' : Led} {o : Nat → Nat → Int} {ys : List Value} {n : Nat} {x : Addr} (h : Planes w T o ys) (hn : ys.length = n) (s : Sub T T') (hx : PlaneIn w T' x (o n 0) (o n 1) (o n 2) (o n 3)) : Planes w T' o (ys ++ [.ref x]) := fun i v e => by
  by_cases hi : i < ys.length
  · rw [List.getElem?_append_left hi] at e
    obtain ⟨P, rfl, hP⟩ := h i v e
    exact ⟨P, rfl, hP.sub s⟩
  · have hlt : i < (ys ++ [Value.ref x]).length := (List.getElem?_eq_some_iff.mp e).1
    have hi' : i = ys.length := by rw [List.length_append, List.length_singleton] at hlt; omega
    rw [hi', List.getElem?_concat_length] at e
    cases e
    exact ⟨x, rfl, by rw [hi', hn]; exact hx⟩
def AppEnd (base : Led) (V : Nat → List Value → Led → Prop) (i : Nat) (ys : List Value) (y : Value) (T : Led) : Prop := ∃ X, T = X ++ base ∧ V (i + 1) (ys ++ [y]) T
theorem rest_app {prog : Program} {w : World} {A : Around} {h₀ : Heap} {L : Addr} {m : Str → Option Value} {env : Env} {elt : PySem.Expr} {x : Str} {scope : Scope} {cl : List (Str × Addr)} {s : Shared} {Fin : List Value → Led → Prop} {n : Nat} {a : Int} {base : Led} (V : Nat → List Value → Led → Prop)
    (turn : ∀ i ys X, i < n → V i ys (X ++ base) → ∀ t I oI C oC Y oY D h tk (E' : Value → Shared → Prop), oY.data = .cell (some (.int (a + (i : Int)) t)) → Fr h₀ L h m → News h₀ L h ((I, oI) :: (C, oC) :: (Y, oY) :: (D, lst ys) :: (X ++ base)) → Off4 I C Y D (X ++ base) →
      ((@Ne Nat I C) ∧ (@Ne Nat I Y) ∧ (@Ne Nat I D) ∧ (@Ne Nat C Y) ∧ (@Ne Nat C D) ∧ (@Ne Nat Y D)) →
      wpAny (model prog w) A (eval elt (compEnvC scope ((x, Y) :: cl) C env)) (EndX h₀ L m { s with heap := h, toks := tk } I oI C oC Y oY D (lst ys) (AppEnd base V i ys)) E' { s with heap := h, toks := tk })
    (fin : ∀ ys X, V n ys (X ++ base) → Fin ys (X ++ base)) (start : V 0 [] base) : RestX prog w A h₀ L m env elt x scope cl s Fin n a [] base := by
  have q := rest_ind (prog := prog) (w := w) (A := A) (h₀ := h₀) (L := L) (m := m) (env := env) (elt := elt) (x := x) (scope := scope) (cl := cl) (s := s) (Fin := Fin) (n := n) (a := a) (fun i ys T => ∃ X, T = X ++ base ∧ V i ys T)
    (fun i ys T hi ⟨X, e, hV⟩ => by subst e; exact turn i ys X hi hV) (fun ys T ⟨X, e, hV⟩ => by subst e; exact fin ys X hV) n 0 [] base (Nat.zero_add n) ⟨[], rfl, start⟩
  simpa using q
theorem nt_itemS {prog : Program} {w : World} {A : Around} {E : Value → Shared → Prop} {s : Shared} {h₀ : Heap} {L l : Addr} {news : Led} {os : List Value} {c i J : Nat} {u : Tok} {g : Nat → Int} {value slice : PySem.Expr} {Q : Value → Shared → Prop} (N : News h₀ L s.heap news) (hm : (l, tupOf os.toArray c) ∈ news) (hi : Ints g os) (hl : os.length = J) (h0 : i < J) (hJ : J ≤ 4)
    (h : ∀ t, Q (.int (g i) t) s)
    (hs : subscripted slice false (.ref l) (.int (0 + (i : Int)) u) = operate [.ref l, .int (0 + (i : Int)) u] (getItem (.ref l) (.int (0 + (i : Int)) u)) := by with_unfolding_all rfl) (hg : ∀ r, letTemporaryGo value (.ref l) r = pure () := by intro _; with_unfolding_all rfl) :
    wpAny (model prog w) A (subscriptTail value slice (.ref l) (.int (0 + (i : Int)) u)) Q E s := by
  have hlt : i < os.length := hl ▸ h0
  obtain ⟨t, ht⟩ := hi i os[i] (List.getElem?_eq_getElem hlt)
  refine item_tuple (j := i) (items := os.toArray) ⟨_, (N _ hm).1, rfl, c, rfl⟩ (by omega) (by omega) ?_ (by simp [List.getElem?_eq_getElem hlt]; rfl) (by rw [ht]; exact h t) hs hg
  unfold seqIndex?
  simp
  omega
def Halt (P : Prop) : Prop := P
theorem halt_here {P : Prop} (h : Halt P) : P := h
def Halts : Prop := True
theorem halts : Halts := trivial
theorem lt_two {i : Nat} (h : i < 2) : i = 0 ∨ i = 1 := by omega
def AllMem (T : Led) : Led → Prop
  | [] => True
  | p :: r => p ∈ T ∧ AllMem T r
theorem allMem_of {T : Led} : ∀ {b : Led}, Sub b T → AllMem T b
  | [], _ => trivial
  | _ :: _, s => ⟨s _ List.mem_cons_self, allMem_of fun q hq => s q (List.mem_cons_of_mem _ hq)⟩
theorem allMem_sub {T : Led} : ∀ {b : Led}, AllMem T b → Sub b T
  | [], _, _, h => nomatch h
  | p :: r, hA, q, h => by
    rcases List.mem_cons.mp h with rfl | h
    · exact hA.1
    · exact allMem_sub hA.2 q h
theorem opaque_base {P : Led → Prop} {base : Led} (h : ∀ T, AllMem T base → P T) : P base := h base (allMem_of Sub.refl)
def TupsG (base T : Led) (J : Nat) (R : (Nat → Int) → (Nat → Int) → Prop) (d : Nat → Nat → Int) (q0 : Nat) (ys : List Value) : Prop :=
  ∀ k v, ys[k]? = some v → ∃ (D : Addr) (os : List Value) (g : Nat → Int) (c : Nat), v = .ref D ∧ (D, tupOf os.toArray c) ∈ T ∧ os.length = J ∧ Ints g os ∧ R (fun j => d j (q0 + k)) g ∧ AllLt D base
theorem tups_snoc {base T T' : Led} {J n c q0 : Nat} {R : (Nat → Int) → (Nat → Int) → Prop} {d : Nat → Nat → Int} {ys os : List Value} {D : Addr} {g : Nat → Int} (h : TupsG base T J R d q0 ys) (hn : ys.length = n) (s : Sub T T') (hm : (D, tupOf os.toArray c) ∈ T') (hl : os.length = J) (hi : Ints g os)
    (hR : R (fun j => d j (q0 + n)) g) (ha : AllLt D base) : TupsG base T' J R d q0 (ys ++ [.ref D]) := fun k v e => by
  by_cases hk : k < ys.length
  · rw [List.getElem?_append_left hk] at e
    obtain ⟨D1, os1, g1, c1, e1, m1, r⟩ := h k v e
    exact ⟨D1, os1, g1, c1, e1, s _ m1, r⟩
  · have hlt : k < (ys ++ [Value.ref D]).length := (List.getElem?_eq_some_iff.mp e).1
    have hk' : k = ys.length := by rw [List.length_append, List.length_singleton] at hlt; omega
    rw [hk', List.getElem?_concat_length] at e
    cases e
    exact ⟨D, os, g, c, rfl, hm, hl, hi, by rw [hk', hn]; exact hR, ha⟩
theorem allLt_sub {D : Addr} {T : Led} : ∀ {b : Led}, AllLt D T → Sub b T → AllLt D b
  | [], _, _ => trivial
  | p :: r, h, s => ⟨allLt_mem (a := p.1) (o := p.2) h (s p List.mem_cons_self), allLt_sub h fun q hq => s q (List.mem_cons_of_mem _ hq)⟩
theorem news_two {h₀ h : Heap} {L : Addr} {p q0 q1 : Addr × Obj} {X base : Led} (N : News h₀ L h (p :: (X ++ base))) (m0 : q0 ∈ X ++ base) (m1 : q1 ∈ X ++ base) : News h₀ L h (p :: q0 :: q1 :: base) := fun z hz => by
  rcases List.mem_cons.mp hz with rfl | hz
  · exact N _ List.mem_cons_self
  · rcases List.mem_cons.mp hz with rfl | hz
    · exact N _ (List.mem_cons_of_mem _ m0)
    · rcases List.mem_cons.mp hz with rfl | hz
      · exact N _ (List.mem_cons_of_mem _ m1)
      · exact N _ (List.mem_cons_of_mem _ (List.mem_append_right _ hz))
theorem two_of {α : Type} {l : List α} (h : l.length = 2) : ∃ a b, l = [a, b] := by
  match l, h with
  | [a, b], _ => exact ⟨a, b, rfl⟩
theorem rest_tups {prog : Program} {w : World} {A : Around} {h₀ : Heap} {L : Addr} {m : Str → Option Value} {env : Env} {elt : PySem.Expr} {x : Str} {scope : Scope} {cl : List (Str × Addr)} {s : Shared} {Fin : List Value → Led → Prop} {n : Nat} {a : Int} {base : Led} (J : Nat) (R : (Nat → Int) → (Nat → Int) → Prop) (d : Nat → Nat → Int) (q0 : Nat)
    (turn : ∀ T, AllMem T base → ∀ i ys X, i < n → ys.length = i → TupsG T (X ++ T) J R d q0 ys → ∀ t I oI C oC Y oY D h tk (E' : Value → Shared → Prop), oY.data = .cell (some (.int (a + (i : Int)) t)) → Fr h₀ L h m → News h₀ L h ((I, oI) :: (C, oC) :: (Y, oY) :: (D, lst ys) :: (X ++ T)) → Off4 I C Y D (X ++ T) →
      ((@Ne Nat I C) ∧ (@Ne Nat I Y) ∧ (@Ne Nat I D) ∧ (@Ne Nat C Y) ∧ (@Ne Nat C D) ∧ (@Ne Nat Y D)) →
      wpAny (model prog w) A (eval elt (compEnvC scope ((x, Y) :: cl) C env)) (EndX h₀ L m { s with heap := h, toks := tk } I oI C oC Y oY D (lst ys) (AppEnd T (fun i ys T' => ys.length = i ∧ TupsG T T' J R d q0 ys) i ys)) E' { s with heap := h, toks := tk })
    (fin : ∀ ys X, ys.length = n → TupsG base (X ++ base) J R d q0 ys → Fin ys (X ++ base)) : RestX prog w A h₀ L m env elt x scope cl s Fin n a [] base :=
  rest_app (fun i ys T => ys.length = i ∧ TupsG base T J R d q0 ys) (fun i ys X hi hV => turn base (allMem_of Sub.refl) i ys X hi hV.1 hV.2) (fun ys X hV => fin ys X hV.1 hV.2) ⟨rfl, fun _ _ e => nomatch e⟩
theorem c_tplanesG (w : World) (news : Led) (tu dx pl : Addr) (a b : Str) (p : Int) (ta tb tp k1 k2 k3 : Tok) (c : Nat) (v₀ : Value) (ps : List Value) (J : Nat) (Ok : (Nat → Int) → Prop) (R : (Nat → Int) → (Nat → Int) → Prop) (d : Nat → Nat → Int)
   (hS : SampG w news tu (v₀ :: ps).length J Ok R) (hm1 : (tu, instObj 228 dx) ∈ news) (hm2 : (dx, turnD w a b p ta tb tp k1 k2 k3) ∈ news) (hm3 : (pl, listOf (v₀ :: ps).toArray c) ∈ news) (hK : (v₀ :: ps).length ≤ 4) (hJ : 1 ≤ J ∧ J ≤ 4)
   (hP : Planes w news d (v₀ :: ps)) (ok : ∀ q, Ok fun i => d i q) :
   Con w 244 [.ref tu, .ref pl] news 10 (fun h₀ L m Q => ∀ (D : Addr) (qs : List Value) (o : Nat → Nat → Int) (c : Nat) (T : Led) (h' : Heap) (tk' : Nat), (∀ q, q < 4 → R (fun i => d i q) fun j => o j q) → qs.length = J → Planes w T o qs → Sub news T →
     Fr h₀ L h' m → News h₀ L h' ((D, listOf qs.toArray c) :: T) → Q (.ref D) h' tk') := by
  w_top off
  k_with_none
  k_with "k_room" => skip
  k_with "units_room" => skip
  k_with "k_all" => ((repeat ((refine' List.forall_mem_cons.mpr ⟨?ha, ?_⟩); (case ha => k_ne))); (first | exact List.forall_mem_nil _ | assumption | exact off1_all (by assumption) | exact allLt_ne (by assumption) (by (try dsimp only); omega) | ((with_reducible rename _ ∧ AllLt _ _ => hx9); exact allLt_ne hx9.2 (by (try dsimp only); omega)) | ((with_reducible rename _ ∧ _ ∧ AllLt _ _ => hx9); exact allLt_ne hx9.2.2 (by (try dsimp only); omega)) | ((with_reducible rename _ ∧ _ ∧ _ ∧ AllLt _ _ => hx9); exact allLt_ne hx9.2.2.2 (by (try dsimp only); omega))))
  k_with "lcg_sub" => first | with_reducible assumption | ((with_reducible (repeat' (first | exact List.mem_cons_self | assumption | refine List.mem_cons_of_mem _ ?_ | refine List.mem_append_right _ ?_))); done)
  k_with "k_mem" => first | with_reducible assumption | ((with_reducible (repeat' (first | exact List.mem_cons_self | assumption | refine List.mem_cons_of_mem _ ?_ | refine List.mem_append_right _ ?_))); done)
  k_with "lcg_off" => first | exact True.intro | assumption | (refine And.intro (by first | assumption | exact ⟨by k_ne, by k_ne, by k_ne⟩) ?_; lcg_off)
  k_with "k_lt" => skip
  k_with "k_ne" => (refine neN ?_; (try dsimp only); first | with_reducible assumption | exact Ne.symm (by with_reducible assumption) | exact o_gt (by with_reducible assumption) (by lcg_sub) | exact o_1' (by with_reducible assumption) (by lcg_sub) | exact o_lt (by with_reducible assumption) (by lcg_sub) | exact o_1 (by with_reducible assumption) (by lcg_sub) | exact o_3I (by with_reducible assumption) (by lcg_sub) | exact Ne.symm (o_3I (by with_reducible assumption) (by lcg_sub)) | exact o_3C (by with_reducible assumption) (by lcg_sub) | exact Ne.symm (o_3C (by with_reducible assumption) (by lcg_sub)) | exact o_3D (by with_reducible assumption) (by lcg_sub) | exact Ne.symm (o_3D (by with_reducible assumption) (by lcg_sub)) | exact o_4I (by with_reducible assumption) (by lcg_sub) | exact Ne.symm (o_4I (by with_reducible assumption) (by lcg_sub)) | exact o_4C (by with_reducible assumption) (by lcg_sub) | exact Ne.symm (o_4C (by with_reducible assumption) (by lcg_sub)) | exact o_4X (by with_reducible assumption) (by lcg_sub) | exact Ne.symm (o_4X (by with_reducible assumption) (by lcg_sub)) | exact o_4D (by with_reducible assumption) (by lcg_sub) | exact Ne.symm (o_4D (by with_reducible assumption) (by lcg_sub)) | ((repeat (first | exact cn1 | exact cn2 | exact cn3 | exact cn4 | exact cn5 | exact cn6 | exact cn7 | exact Ne.symm cn1 | exact Ne.symm cn2 | exact Ne.symm cn3 | exact Ne.symm cn4 | exact Ne.symm cn5 | exact Ne.symm cn6 | exact Ne.symm cn7 | refine cnS ?_)); done))
  k_with "k_all" => ((repeat ((refine' List.forall_mem_cons.mpr ⟨?ha, ?_⟩); (case ha => k_ne))); (first | exact List.forall_mem_nil _ | with_reducible assumption | exact all_lt (by with_reducible assumption) (by (repeat' (first | with_reducible assumption | exact Sub.refl | refine Sub.cons ?_ | refine Sub.app ?_))) | exact all_1 (by with_reducible assumption) (by (repeat' (first | with_reducible assumption | exact Sub.refl | refine Sub.cons ?_ | refine Sub.app ?_))) | exact all_3I (by with_reducible assumption) (by (repeat' (first | with_reducible assumption | exact Sub.refl | refine Sub.cons ?_ | refine Sub.app ?_))) | exact all_3C (by with_reducible assumption) (by (repeat' (first | with_reducible assumption | exact Sub.refl | refine Sub.cons ?_ | refine Sub.app ?_))) | exact all_3D (by with_reducible assumption) (by (repeat' (first | with_reducible assumption | exact Sub.refl | refine Sub.cons ?_ | refine Sub.app ?_))) | exact all_4I (by with_reducible assumption) (by (repeat' (first | with_reducible assumption | exact Sub.refl | refine Sub.cons ?_ | refine Sub.app ?_))) | exact all_4C (by with_reducible assumption) (by (repeat' (first | with_reducible assumption | exact Sub.refl | refine Sub.cons ?_ | refine Sub.app ?_))) | exact all_4X (by with_reducible assumption) (by (repeat' (first | with_reducible assumption | exact Sub.refl | refine Sub.cons ?_ | refine Sub.app ?_))) | exact all_4D (by with_reducible assumption) (by (repeat' (first | with_reducible assumption | exact Sub.refl | refine Sub.cons ?_ | refine Sub.app ?_))) | exact allLt_ne (by with_reducible assumption) (by repeat (first | exact Nat.le_refl _ | refine Nat.le_succ_of_le ?_))))
  k_with "k_enter" => skip
  k_with "FinE" => ((unfold LCg.FinE); intro D' h' tk' F' N' o1'; (try simp only [List.nil_append, List.cons_append] at N'); (try dsimp only))
  k_with "FinA" => ((unfold LCg.FinA); intro D' h' tk' F' N' o1'; (try simp only [List.nil_append, List.cons_append] at N'); (try dsimp only))
  k_with "CompEnd" => (refine' nt_compEnd ?F ?N ?P1 ?P2 ?P3 ?off ?S ?_; (case F => assumption); (case N => assumption); (case P1 => repeat' (first | exact Pick.head | refine' Pick.tail ?_)); (case P2 => repeat' (first | exact Pick.head | refine' Pick.tail ?_)); (case P3 => repeat' (first | exact Pick.head | refine' Pick.tail ?_)); (case off => lcg_off); (case S => first | lcg_src | assumption))
  k_with "eval ListComp" => (k_here; (with_reducible show wpAny _ _ (eval (PySem.Expr.ListComp _ [⟨PySem.Expr.Name _ _, _, [], _⟩] _ _) _) _ _ _); (try k_fold); k_dflt (refine LCg.ListComp_U (F₀ := by k_asm) (by with_unfolding_all rfl) (by decide) (by rfl) (by decide) (by rfl) ?_))
  k_with "exec Assign cons ListComp" => (k_here; k_dflt (refine LCg.Assign_ListComp_U (F₀ := by k_asm) (by rfl) (by with_unfolding_all rfl) (by with_unfolding_all rfl) (by decide) (by rfl) (by decide) (by rfl) (by rfl) (by rfl) ?_))
  k_with "eval ListComp" => (k_here; (with_reducible show wpAny _ _ (eval (PySem.Expr.ListComp _ [⟨PySem.Expr.Name _ _, _, [_], _⟩] _ _) _) _ _ _); (try k_fold); k_dflt (refine LCt.ListComp_T (F₀ := by k_asm) (by with_unfolding_all rfl) (by decide) (by rfl) (by decide) (by rfl) ?_))
  k_with "CompSrcT" => (k_here; k_dflt (first | (refine LCt.CompSrcT.ledger (by rfl) (by k_asm) (by k_asm) (by lcg_sub) (by first | exact Nat.le_of_ble_eq_true rfl | size_fits) ?_; intro g'; lct_lit) | (refine LCt.CompSrcT.range (by rfl) (by k_asm) (by k_asm) (by assumption) (by first | decide | rfl) (by first | rfl | decide) (by first | exact Nat.le_of_ble_eq_true rfl | size_fits) ?_; intro g'; lct_lit)))
  k_with "CompRestT" => (with_unfolding_all first | (refine LCt.CompRestT.succ ?_; intro v' I' oI' C' oC' D' m' h' tk' E' hv' hC' hx' F' N' off' ne'; (first | lcg_open hv' | (obtain ⟨t9', hv9'⟩ := hv'; subst hv9')); (obtain ⟨ne1', ne2', ne3'⟩ := ne')) | refine LCt.CompRestT.zero ?_)
  k_with "CompSrc" => (k_here; k_dflt (first | (refine LCg.CompSrc.ledger (by rfl) (by k_asm) (by k_asm) (by lcg_sub) (by first | exact Nat.le_of_ble_eq_true rfl | size_fits) ?_; intro g'; lcg_lit) | (refine LCg.CompSrc.range (by rfl) (by k_asm) (by k_asm) (by assumption) (by first | decide | rfl) (by first | rfl | decide) (by first | exact Nat.le_of_ble_eq_true rfl | size_fits) ?_; intro g'; lcg_lit)))
  k_with "CompRest" => (with_unfolding_all first | (refine LCg.CompRest.succ ?_; intro v' I' oI' C' oC' D' m' h' tk' E' hv' hC' hx' F' N' off' ne'; (first | lcg_open hv' | (obtain ⟨t9', hv9'⟩ := hv'; subst hv9')); (obtain ⟨ne1', ne2', ne3'⟩ := ne')) | refine LCg.CompRest.zero ?_)
  k_with "execs cons" => ((with_reducible refine gen_toks (fun tk => ?_)); (with_reducible refine wpAny_execs_cons ?_); (try dsimp only); (try k_fold))
  k_with "subscriptTail" => (k_here; (with_reducible show wpAny _ _ (subscriptTail _ _ (Value.ref _) (Value.int _ _)) _ _ _); k_dflt (first | (refine' nt_item ?N ?hm ?k2 ?k3 ?k4 ?_ ?k6; (case N => k_asm); (case hm => lcg_sub); (case k2 => decide); (case k3 => decide); (case k4 => exact rfl); (case k6 => with_unfolding_all rfl); k_whole) | (refine' nt_itemK ?X ?F ?hl ?k2 ?k3 ?k4 ?_ ?k6 ?k7; (case F => k_asm); (case X => k_asm); (case hl => k_is); (case k2 => decide); (case k3 => decide); (case k4 => exact rfl); (case k6 => with_unfolding_all rfl); (case k7 => intro _; with_unfolding_all rfl); k_whole) | (refine' nt_itemT ?N ?hm ?k2 ?k3 ?k4 ?_ ?k6 ?k7; (case N => k_asm); (case hm => lcg_sub); (case k2 => decide); (case k3 => decide); (case k4 => exact rfl); (case k6 => with_unfolding_all rfl); (case k7 => intro _; with_unfolding_all rfl); k_whole)))
  k_with "subscriptTail Name Constant ref int" => (k_here; (with_reducible show wpAny _ _ (subscriptTail _ _ (Value.ref _) (Value.int _ _)) _ _ _); k_dflt (first | (refine' nt_item ?N ?hm ?k2 ?k3 ?k4 ?_ ?k6; (case N => k_asm); (case hm => lcg_sub); (case k2 => decide); (case k3 => decide); (case k4 => exact rfl); (case k6 => with_unfolding_all rfl); k_whole) | (refine' nt_itemK ?X ?F ?hl ?k2 ?k3 ?k4 ?_ ?k6 ?k7; (case F => k_asm); (case X => k_asm); (case hl => k_is); (case k2 => decide); (case k3 => decide); (case k4 => exact rfl); (case k6 => with_unfolding_all rfl); (case k7 => intro _; with_unfolding_all rfl); k_whole) | (refine' nt_itemT ?N ?hm ?k2 ?k3 ?k4 ?_ ?k6 ?k7; (case N => k_asm); (case hm => lcg_sub); (case k2 => decide); (case k3 => decide); (case k4 => exact rfl); (case k6 => with_unfolding_all rfl); (case k7 => intro _; with_unfolding_all rfl); k_whole)))
  k_with "subscriptTail Name Name ref int" => (k_here; (with_reducible show wpAny _ _ (subscriptTail _ _ (Value.ref _) (Value.int _ _)) _ _ _); k_dflt (first | (refine' nt_item ?N ?hm ?k2 ?k3 ?k4 ?_ ?k6; (case N => k_asm); (case hm => lcg_sub); (case k2 => decide); (case k3 => decide); (case k4 => exact rfl); (case k6 => with_unfolding_all rfl); k_whole) | (refine' nt_itemK ?X ?F ?hl ?k2 ?k3 ?k4 ?_ ?k6 ?k7; (case F => k_asm); (case X => k_asm); (case hl => k_is); (case k2 => decide); (case k3 => decide); (case k4 => exact rfl); (case k6 => with_unfolding_all rfl); (case k7 => intro _; with_unfolding_all rfl); k_whole) | (refine' nt_itemT ?N ?hm ?k2 ?k3 ?k4 ?_ ?k6 ?k7; (case N => k_asm); (case hm => lcg_sub); (case k2 => decide); (case k3 => decide); (case k4 => exact rfl); (case k6 => with_unfolding_all rfl); (case k7 => intro _; with_unfolding_all rfl); k_whole)))
  k_with "subscriptTail Attribute Name Constant ref int" => (k_here; (with_reducible show wpAny _ _ (subscriptTail _ _ (Value.ref _) (Value.int _ _)) _ _ _); k_dflt (first | (refine' nt_item ?N ?hm ?k2 ?k3 ?k4 ?_ ?k6; (case N => k_asm); (case hm => lcg_sub); (case k2 => decide); (case k3 => decide); (case k4 => exact rfl); (case k6 => with_unfolding_all rfl); k_whole) | (refine' nt_itemK ?X ?F ?hl ?k2 ?k3 ?k4 ?_ ?k6 ?k7; (case F => k_asm); (case X => k_asm); (case hl => k_is); (case k2 => decide); (case k3 => decide); (case k4 => exact rfl); (case k6 => with_unfolding_all rfl); (case k7 => intro _; with_unfolding_all rfl); k_whole) | (refine' nt_itemT ?N ?hm ?k2 ?k3 ?k4 ?_ ?k6 ?k7; (case N => k_asm); (case hm => lcg_sub); (case k2 => decide); (case k3 => decide); (case k4 => exact rfl); (case k6 => with_unfolding_all rfl); (case k7 => intro _; with_unfolding_all rfl); k_whole)))
  k_with "subscriptTail Attribute Name Name ref int" => (k_here; (with_reducible show wpAny _ _ (subscriptTail _ _ (Value.ref _) (Value.int _ _)) _ _ _); k_dflt (first | (refine' nt_item ?N ?hm ?k2 ?k3 ?k4 ?_ ?k6; (case N => k_asm); (case hm => lcg_sub); (case k2 => decide); (case k3 => decide); (case k4 => exact rfl); (case k6 => with_unfolding_all rfl); k_whole) | (refine' nt_itemK ?X ?F ?hl ?k2 ?k3 ?k4 ?_ ?k6 ?k7; (case F => k_asm); (case X => k_asm); (case hl => k_is); (case k2 => decide); (case k3 => decide); (case k4 => exact rfl); (case k6 => with_unfolding_all rfl); (case k7 => intro _; with_unfolding_all rfl); k_whole) | (refine' nt_itemT ?N ?hm ?k2 ?k3 ?k4 ?_ ?k6 ?k7; (case N => k_asm); (case hm => lcg_sub); (case k2 => decide); (case k3 => decide); (case k4 => exact rfl); (case k6 => with_unfolding_all rfl); (case k7 => intro _; with_unfolding_all rfl); k_whole)))
  k_with "subscriptTail Subscript Name ref int" => (k_here; (with_reducible show wpAny _ _ (subscriptTail _ _ (Value.ref _) (Value.int _ _)) _ _ _); k_dflt (first | (refine' nt_item ?N ?hm ?k2 ?k3 ?k4 ?_ ?k6; (case N => k_asm); (case hm => lcg_sub); (case k2 => decide); (case k3 => decide); (case k4 => exact rfl); (case k6 => with_unfolding_all rfl); k_whole) | (refine' nt_itemK ?X ?F ?hl ?k2 ?k3 ?k4 ?_ ?k6 ?k7; (case F => k_asm); (case X => k_asm); (case hl => k_is); (case k2 => decide); (case k3 => decide); (case k4 => exact rfl); (case k6 => with_unfolding_all rfl); (case k7 => intro _; with_unfolding_all rfl); k_whole) | (refine' nt_itemT ?N ?hm ?k2 ?k3 ?k4 ?_ ?k6 ?k7; (case N => k_asm); (case hm => lcg_sub); (case k2 => decide); (case k3 => decide); (case k4 => exact rfl); (case k6 => with_unfolding_all rfl); (case k7 => intro _; with_unfolding_all rfl); k_whole)))
  k_with "subscriptTail Subscript Constant ref int" => (k_here; (with_reducible show wpAny _ _ (subscriptTail _ _ (Value.ref _) (Value.int _ _)) _ _ _); k_dflt (first | (refine' nt_item ?N ?hm ?k2 ?k3 ?k4 ?_ ?k6; (case N => k_asm); (case hm => lcg_sub); (case k2 => decide); (case k3 => decide); (case k4 => exact rfl); (case k6 => with_unfolding_all rfl); k_whole) | (refine' nt_itemK ?X ?F ?hl ?k2 ?k3 ?k4 ?_ ?k6 ?k7; (case F => k_asm); (case X => k_asm); (case hl => k_is); (case k2 => decide); (case k3 => decide); (case k4 => exact rfl); (case k6 => with_unfolding_all rfl); (case k7 => intro _; with_unfolding_all rfl); k_whole) | (refine' nt_itemT ?N ?hm ?k2 ?k3 ?k4 ?_ ?k6 ?k7; (case N => k_asm); (case hm => lcg_sub); (case k2 => decide); (case k3 => decide); (case k4 => exact rfl); (case k6 => with_unfolding_all rfl); (case k7 => intro _; with_unfolding_all rfl); k_whole)))
  k_with "setItem ref int" => (k_here; k_dflt (refine' ki_set ?F ?N ?k2 ?k3 ?k4 ?U ?_; (case F => k_asm); (case N => k_asm); (case U => k_upd); (case k2 => decide); (case k3 => decide); (case k4 => exact rfl); k_whole); intro h' F' N'; (try k_sweep))
  k_with "eval Name" => (k_here; (with_reducible show wpAny _ _ (eval (Expr.Name _ _) (envOf _ _ _ _ _)) _ _ _); (with_reducible rename Fr _ _ _ _ => kF); k_dflt (first | (name_kind "local"; (refine' ld kF ?k2 ?_ ?a ?b ?c; (case k2 => exact rfl); (case a => kernel_rfl!); (case b => kernel_rfl!); (case c => decide +kernel)); k_whole) | (name_kind "globalImplicit"; (refine' name_K kF ?k1 ?k2 ?k3 ?_ ?a ?b ?c; (case k1 => k_asm); (case k2 => k_asm); (case k3 => k_is); (case a => kernel_rfl!); (case b => kernel_rfl!); (case c => decide +kernel); k_whole)) | (refine' name_B kF ?k1 ?k2 ?k3 ?k4 ?k5 ?_; (case k1 => k_asm); (case k2 => k_asm); (case k3 => k_is); (case k4 => boot_by_name); (case k5 => decide); k_whole)))
  k_with "compareOp NotEq ref ref" => (k_here; k_dflt (first | (with_reducible refine' ne_t3 ?N ?ha ?hb ?e1 ?e2 ?e3 ?hu ?_; (case N => k_asm); (case ha => lcg_sub); (case hb => lcg_sub); (case e1 => first | assumption | exact (Grey.h (by assumption) (by assumption) (by assumption)).1 | exact (Grey2.h (by assumption) (by assumption) (by assumption)).1 | rfl); (case e2 => first | assumption | exact (Grey.h (by assumption) (by assumption) (by assumption)).2.1 | exact (Grey2.h (by assumption) (by assumption) (by assumption)).2.1 | rfl); (case e3 => first | assumption | exact (Grey.h (by assumption) (by assumption) (by assumption)).2.2 | exact (Grey2.h (by assumption) (by assumption) (by assumption)).2.2 | rfl); (case hu => units_room)) | (with_reducible refine' ne_l3 ?N ?ha ?hb ?e1 ?e2 ?e3 ?hu ?_; (case N => k_asm); (case ha => lcg_sub); (case hb => lcg_sub); (case e1 => first | assumption | exact (Grey.h (by assumption) (by assumption) (by assumption)).1 | exact (Grey2.h (by assumption) (by assumption) (by assumption)).1 | rfl); (case e2 => first | assumption | exact (Grey.h (by assumption) (by assumption) (by assumption)).2.1 | exact (Grey2.h (by assumption) (by assumption) (by assumption)).2.1 | rfl); (case e3 => first | assumption | exact (Grey.h (by assumption) (by assumption) (by assumption)).2.2 | exact (Grey2.h (by assumption) (by assumption) (by assumption)).2.2 | rfl); (case hu => units_room)) | (with_reducible refine' ne_l0 ?N ?ha ?hb ?hu ?_; (case N => k_asm); (case ha => lcg_sub); (case hb => lcg_sub); (case hu => units_room))))
  k_with "compareOp Eq ref ref" => (k_here; k_dflt ((with_reducible refine' eq_l0 ?N ?ha ?hb ?hu ?_; (case N => k_asm); (case ha => lcg_sub); (case hb => lcg_sub); (case hu => units_room))))
  k_with "eval Call" => ((with_reducible show wpAny _ _ (eval (Expr.Call (Expr.Name _ _) _ [] _) (envOf _ _ _ _ _)) _ _ _); k_dflt (refine Call_ ?_))
  k_with "call builtin:list.append" => (k_here; (with_reducible show wpAny _ _ (call (Value.builtin _) [Value.ref _, _]) _ _ _); k_dflt (refine' nt_append ?F ?N ?P ?off ?hsz ?_; (case F => k_asm); (case N => k_asm); (case P => repeat' (first | exact Pick.head | refine' Pick.tail ?_)); (case off => k_all); (case hsz => first | exact Nat.le_of_ble_eq_true rfl | size_fits)); intro h' F' N'; (try simp only [List.cons_append, List.nil_append] at N'); (try k_sweep))
  k_with "exec For Name Call cons nil" => (k_here; (with_reducible rename Fr _ _ _ _ => lF'); (with_unfolding_all refine' For_turns lF' ?_; k_whole))
  k_with "pyIter ref" => (k_here; (with_reducible show wpAny _ _ (pyIter (Value.ref _)) (fun it s₂ => TurnsAt _ _ _ _ _ _ _ _ _ it s₂) _ _); k_dflt (refine' rangeTurns ?hh ?hr ?hs ?hn ?F ?N ?_; (case hh => rfl); (case hr => assumption); (case hs => first | decide | rfl); (case hn => first | rfl | decide); (case F => k_asm); (case N => k_asm)); intro i' l1'; (try k_lt l1'))
  k_with "UnrEndW" => (refine' unrEnd ?F ?N ?P ?off ⟨trivial, ?_⟩; (case F => assumption); (case N => assumption); (case P => repeat' (first | exact Pick.head | refine' Pick.tail ?_)); (case off => k_all))
  k_with "eval ListComp" => (k_here; (with_reducible show wpAny _ _ (eval (PySem.Expr.ListComp _ [⟨PySem.Expr.Name _ _, _, [], _⟩] _ _) _) _ _ _); (try k_fold); k_dflt (refine ListComp_X (F₀ := by k_asm) (by with_unfolding_all rfl) (by intro _; rfl) (by intro _; rfl) (by rfl) (by decide) (by rfl) ?_))
  k_with "SrcX" => (k_here; k_dflt (refine SrcX.intro (by rfl) (by k_asm) (by k_asm) (by assumption) (by first | decide | rfl) (by first | rfl | decide) (by first | exact Nat.le_of_ble_eq_true rfl | size_fits) ?_; intro g'))
  k_with "RestX" => (with_unfolding_all first | (refine RestX.succ ?_; intro t' I' oI' C' oC' X' oX' D' h' tk' E' hX' F' N' off' ne'; (obtain ⟨ne1', ne2', ne3', ne4', ne5', ne6'⟩ := ne')) | refine RestX.zero ?_)
  k_with "EndX" => (refine' EndX.intro ?F ?N ?P1 ?P2 ?P3 ?P4 ?off ?_; (case F => assumption); (case N => assumption); (case P1 => repeat' (first | exact Pick.head | refine' Pick.tail ?_)); (case P2 => repeat' (first | exact Pick.head | refine' Pick.tail ?_)); (case P3 => repeat' (first | exact Pick.head | refine' Pick.tail ?_)); (case P4 => repeat' (first | exact Pick.head | refine' Pick.tail ?_)); (case off => repeat' (first | exact True.intro | assumption | (refine And.intro (by first | assumption | exact ⟨by k_ne, by k_ne, by k_ne, by k_ne⟩) ?_))))
  k_with "call ref" => (k_here; (with_reducible show wpAny _ _ (call (Value.ref 225) _) _ _ _); k_dflt (refine' Con.use (SampG.use ?hS ?sub ?hl ?len ?hin ?ok) ?B ?F ?X ?N ?T ?hk ?hd ?hu ?_; (case F => k_asm); (case N => k_asm); (case hS => assumption); (case sub => (repeat' (first | with_reducible assumption | exact Sub.refl | refine Sub.cons ?_ | refine Sub.app ?_))); (case hl => lcg_sub); (case len => assumption); (case hin => with_reducible assumption); (case ok => with_reducible assumption); (case T => k_asm); (case X => k_asm); (case B => k_asm); (case hk => first | exact rfl | assumption); (case hd => ktr_room); (case hu => ktr_units); k_whole); intro D' os' g' c' h' tk' lo' io' hR' F' N' l1'; (try k_lt l1'); (try k_sweep))
  k_with "call ref" => (k_here; (with_reducible show wpAny _ _ (call (Value.ref 84) _) _ _ _); k_dflt (refine' Con.use (c_plane _ _ _ _ _ _ _) ?B ?F ?X ?N ?T ?hk ?hd ?hu ?_; (case F => k_asm); (case N => k_asm); (case T => k_asm); (case X => k_asm); (case B => k_asm); (case hk => first | exact rfl | assumption); (case hd => ktr_room); (case hu => ktr_units); k_whole); intro x' d' k1' k2' k3' h' tk' F' N' l1' l2' l3'; skip; (try k_sweep))
  k_with "call ref" => (k_here; (with_reducible show wpAny _ _ (call (Value.ref 122) _) _ _ _); k_dflt (refine' Con.use (c_pic _ _ _ _ _ _ _) ?B ?F ?X ?N ?T ?hk ?hd ?hu ?_; (case F => k_asm); (case N => k_asm); (case T => k_asm); (case X => k_asm); (case B => k_asm); (case hk => first | exact rfl | assumption); (case hd => ktr_room); (case hu => ktr_units); k_whole); intro x' d' k1' k2' k3' h' tk' F' N' l1' l2' l3'; skip; (try k_sweep))
  k_with "call ref" => (k_here; (with_reducible show wpAny _ _ (call (Value.ref 228) _) _ _ _); k_dflt (refine' Con.use (c_turning _ _ _ _ _ _ _ _) ?B ?F ?X ?N ?T ?hk ?hd ?hu ?_; (case F => k_asm); (case N => k_asm); (case T => k_asm); (case X => k_asm); (case B => k_asm); (case hk => first | exact rfl | assumption); (case hd => ktr_room); (case hu => ktr_units); k_whole); intro x' d' k1' k2' k3' h' tk' F' N' l1' l2' l3'; skip; (try k_sweep))
  k_with "CompSrc" => (k_here; (with_reducible rename Halts => hs9); (with_reducible refine halt_here ?_))
  k_with "SrcX" => (k_here; (with_reducible rename Halts => hs9); (with_reducible refine halt_here ?_))
  k_with "subscriptTail Name Name ref int" => (k_here; (with_reducible show wpAny _ _ (subscriptTail _ _ (Value.ref _) (Value.int (0 + _) _)) _ _ _); (k_dflt (refine' nt_itemS ?N ?hm ?hi ?hl ?h0 ?hJ ?_ ?hs ?hg)); (case N => k_asm); (case hm => lcg_sub); (case hi => with_reducible assumption); (case hl => assumption); (case h0 => assumption); (case hJ => exact And.right (by assumption)); (case hs => with_unfolding_all rfl); (case hg => intro _; with_unfolding_all rfl); k_whole; intro t')
  unfold Con
  k_fill
  intro mean mg mb dp un gd cn cs aa ccd cl outer A₀ base h₀ L m s Q E B F X9 N T9 hk hd hu hret
  obtain ⟨P₀, rfl, d0, rl0, r00, r01, tx0, ty0, k10, k20, k30, ta0, tb0, tc0, td0, c10, c20, c30, m10, m20, m30, m40, m50⟩ := hP 0 v₀ rfl
  obtain ⟨hp₀, gn₀, dr₀, tk₀, os₀⟩ := s
  have hs := halts
  refine wpAny_call ?_
  k_dflt k_enter
  k_steps
  unfold Halt
  refine src_map (fun i y => ∃ (r : Addr) (ta tb : Tok) (c : Nat), y = .ref r ∧ (r, listOf #[.int (d i 0) ta, .int (d i 1) tb] c) ∈ news) (by rfl) (by k_asm) (by k_asm) (by lcg_sub) (by have := sizeLine_eq; omega) ?_ ?_
  · intro i v' I' oI' C' oC' D' oD' m' h' tk' E' hi hv hC' hx' F' N'
    obtain ⟨P', rfl, d1, rl1, r10, r11, tx1, ty1, k11, k21, k31, ta1, tb1, tc1, td1, c11, c21, c31, m11, m21, m31, m41, m51⟩ := hP i v' hv
    dsimp only
    k_steps
    exact Reading.intro ⟨_, _, _, _, rfl, by assumption⟩
  intro g' A hlA hyA
  dsimp only
  k_steps
  unfold Halt
  refine SrcX.intro (by rfl) (by k_asm) (by k_asm) (by assumption) (by first | decide | rfl) (by first | rfl | decide) (Nat.le_of_ble_eq_true rfl) ?_
  intro g'
  dsimp only
  refine rest_tups J R d 0 ?_ ?_
  · intro T hA i ys X hi hly hV t' I' oI' C' oC' X' oX' D' h' tk' E' hX' F' N' off' ne'
    obtain ⟨ne1', ne2', ne3', ne4', ne5', ne6'⟩ := ne'
    repeat (obtain ⟨_, hA⟩ := hA)
    have sN0 := allMem_sub hA
    have hm1T := sN0 _ hm1
    have hm2T := sN0 _ hm2
    have hm3T := sN0 _ hm3
    have hi2 : i < 2 := hi
    have oki := ok (0 + i)
    dsimp only
    k_steps
    unfold Halt
    refine src_map (fun k y => ∃ t, y = .int (d k (0 + i)) t) (by rfl) (by k_asm) (by k_asm) (by lcg_sub) (by have := sizeLine_eq; omega) ?_ ?_
    · intro k v' I2 oI2 C2 oC2 D2 oD2 m2 h2 tk2 E2 hk2 hv hC2 hx2 F2 N2
      obtain ⟨r', ta', tb', c', rfl, hr'⟩ := hyA k v' hv
      have hr9 := sN0 _ hr'
      dsimp only
      have hi3 := lt_two hi2
      rcases hi3 with rfl | rfl
      · have hX9 : oX'.data = .cell (some (.int 0 t')) := hX'
        clear hX'
        k_steps
        exact Reading.intro ⟨_, rfl⟩
      · have hX9 : oX'.data = .cell (some (.int 1 t')) := hX'
        clear hX'
        k_steps
        exact Reading.intro ⟨_, rfl⟩
    intro g' A0 hlA0 hyA0
    have hiA0 : Ints (fun k => d k (0 + i)) A0 := hyA0
    have hkA0 := hlA0.trans hlA
    dsimp only
    k_steps
    (try simp only [List.nil_append, List.cons_append])
    (with_reducible rename AllLt _ _ => hlt9)
    refine ⟨_ :: _ :: X, rfl, by rw [List.length_append, hly]; rfl, tups_snoc hV hly ?_ List.mem_cons_self (by assumption) (by assumption) (by assumption) (allLt_sub hlt9 ?_)⟩
    · repeat (first | exact Sub.refl | refine Sub.cons ?_)
    · repeat (first | exact Sub.refl | refine Sub.cons ?_ | refine Sub.app ?_)
  · intro ys X hly hV
    obtain ⟨v0, v1, rfl⟩ := two_of hly
    obtain ⟨D0, os0, g0, c0, rfl, mD0, lD0, iD0, R0, aD0⟩ := hV 0 _ rfl
    obtain ⟨D1, os1, g1, c1, rfl, mD1, lD1, iD1, R1, aD1⟩ := hV 1 _ rfl
    clear hV
    unfold LCg.FinE
    intro D' h' tk' F' N' o1'
    replace N' := news_two N' mD0 mD1
    dsimp only
    k_steps
    unfold Halt
    refine src_map (fun i y => ∃ (r : Addr) (ta tb : Tok) (c : Nat), y = .ref r ∧ (r, listOf #[.int (d i 2) ta, .int (d i 3) tb] c) ∈ news) (by rfl) (by k_asm) (by k_asm) (by lcg_sub) (by have := sizeLine_eq; omega) ?_ ?_
    · intro i v' I' oI' C' oC' D' oD' m' h' tk' E' hi hv hC' hx' F' N'
      obtain ⟨P', rfl, d1, rl1, r10, r11, tx1, ty1, k11, k21, k31, ta1, tb1, tc1, td1, c11, c21, c31, m11, m21, m31, m41, m51⟩ := hP i v' hv
      dsimp only
      k_steps
      exact Reading.intro ⟨_, _, _, _, rfl, by assumption⟩
    intro g' B hlB hyB
    dsimp only
    k_steps
    unfold Halt
    refine SrcX.intro (by rfl) (by k_asm) (by k_asm) (by assumption) (by first | decide | rfl) (by first | rfl | decide) (Nat.le_of_ble_eq_true rfl) ?_
    intro g'
    dsimp only
    refine rest_tups J R d 2 ?_ ?_
    · intro T hA i ys X hi hly hV t' I' oI' C' oC' X' oX' D' h' tk' E' hX' F' N' off' ne'
      obtain ⟨ne1', ne2', ne3', ne4', ne5', ne6'⟩ := ne'
      repeat (obtain ⟨_, hA⟩ := hA)
      have sN0 := allMem_sub hA
      have hm1T := sN0 _ hm1
      have hm2T := sN0 _ hm2
      have hm3T := sN0 _ hm3
      have hi2 : i < 2 := hi
      have oki := ok (2 + i)
      dsimp only
      k_steps
      unfold Halt
      refine src_map (fun k y => ∃ t, y = .int (d k (2 + i)) t) (by rfl) (by k_asm) (by k_asm) (by lcg_sub) (by have := sizeLine_eq; omega) ?_ ?_
      · intro k v' I2 oI2 C2 oC2 D2 oD2 m2 h2 tk2 E2 hk2 hv hC2 hx2 F2 N2
        obtain ⟨r', ta', tb', c', rfl, hr'⟩ := hyB k v' hv
        have hr9 := sN0 _ hr'
        dsimp only
        have hi3 := lt_two hi2
        rcases hi3 with rfl | rfl
        · have hX9 : oX'.data = .cell (some (.int 0 t')) := hX'
          clear hX'
          k_steps
          exact Reading.intro ⟨_, rfl⟩
        · have hX9 : oX'.data = .cell (some (.int 1 t')) := hX'
          clear hX'
          k_steps
          exact Reading.intro ⟨_, rfl⟩
      intro g' B0 hlB0 hyB0
      have hiB0 : Ints (fun k => d k (2 + i)) B0 := hyB0
      have hkB0 := hlB0.trans hlB
      dsimp only
      k_steps
      (try simp only [List.nil_append, List.cons_append])
      (with_reducible rename AllLt _ _ => hlt9)
      refine ⟨_ :: _ :: X, rfl, by rw [List.length_append, hly]; rfl, tups_snoc hV hly ?_ List.mem_cons_self (by assumption) (by assumption) (by assumption) (allLt_sub hlt9 ?_)⟩
      · repeat (first | exact Sub.refl | refine Sub.cons ?_)
      · repeat (first | exact Sub.refl | refine Sub.cons ?_ | refine Sub.app ?_)
    · intro ys X hly hV
      obtain ⟨v0, v1, rfl⟩ := two_of hly
      obtain ⟨D0, os0, g2, c0, rfl, mD0, lD0, iD0, R2, aD0⟩ := hV 0 _ rfl
      obtain ⟨D1, os1, g3, c1, rfl, mD1, lD1, iD1, R3, aD1⟩ := hV 1 _ rfl
      clear hV
      unfold LCg.FinE
      intro D' h' tk' F' N' o1'
      replace N' := news_two N' mD0 mD1
      dsimp only
      k_steps
      (with_reducible rename Halts => hs9); clear hs9
      refine nt_lenT (by k_asm) (by lcg_sub) (by assumption) hJ.2 ?_
      k_steps
      refine SrcX.intro (by rfl) (by k_asm) (by k_asm) (by assumption) (small_J hJ).1 (small_J hJ).2.1 (small_J hJ).2.2 ?_
      intro g'
      dsimp only
      refine opaque_base (P := RestX _ _ _ _ _ _ _ _ _ _ _ _ _ _ _ _) ?_
      intro T0 hA
      repeat (obtain ⟨_, hA⟩ := hA)
      have sN0 := allMem_sub hA
      refine rest_app (fun i ys T => ys.length = i ∧ Planes w T (fun j q => match q with | 0 => g0 j | 1 => g1 j | 2 => g2 j | _ => g3 j) ys) ?_ ?_ ⟨rfl, fun _ _ e => nomatch e⟩
      · intro i ys X hiJ hV t' I' oI' C' oC' X' oX' D' h' tk' E' hX' F' N' off' ne'
        obtain ⟨ne1', ne2', ne3', ne4', ne5', ne6'⟩ := ne'
        dsimp only
        k_steps
        (try simp only [List.nil_append, List.cons_append])
        refine ⟨_ :: _ :: _ :: _ :: _ :: X, rfl, by rw [List.length_append, hV.1]; rfl, planes_snoc hV.2 hV.1 ?_ ?_⟩
        · repeat (first | exact Sub.refl | refine Sub.cons ?_)
        · show PlaneIn w _ _ (g0 i) (g1 i) (g2 i) (g3 i)
          exact ⟨_, _, _, _, _, _, _, _, _, _, _, _, _, _, _, _, by lcg_sub, by lcg_sub, by lcg_sub, by lcg_sub, by lcg_sub⟩
      · intro ys X hV
        k_steps
        all_goals (rename Fr h₀ L _ _ => hF; rename News h₀ L _ _ => hN)
        refine' hret _ ys (fun j q => match q with | 0 => g0 j | 1 => g1 j | 2 => g2 j | _ => g3 j) _ _ _ _ ?r hV.1 hV.2 ?s0 ?F ?N
        case F => exact hF
        case N => exact hN
        case r =>
          intro q hq
          have : q = 0 ∨ q = 1 ∨ q = 2 ∨ q = 3 := by omega
          rcases this with rfl | rfl | rfl | rfl
          · exact R0
          · exact R1
          · exact R2
          · exact R3
        case s0 => repeat (first | exact sN0 | exact Sub.refl | refine Sub.cons ?_ | refine Sub.app ?_)
end
-- NtSampG
section
open PySem PySem.W PySem.Spec PySem.Calls PyProof.Rows PySem.SeqAt
def Ok3G (p : Int) (f : Nat → Int) : Prop := In0 p (f 0) ∧ In0 p (f 1) ∧ In0 p (f 2)
def RyccG (p : Int) (f g : Nat → Int) : Prop := Rycc p (f 0) (f 1) (f 2) (g 0) (g 1) (g 2)
def RrgbG (p : Int) (f g : Nat → Int) : Prop := Rrgb p (f 0) (f 1) (f 2) (g 0) (g 1) (g 2)
def RycckG (p : Int) (f g : Nat → Int) : Prop := Rycck p (f 0) (f 1) (f 2) (f 3) (g 0) (g 1) (g 2) (g 3)
def RcmykG (p : Int) (f g : Nat → Int) : Prop := Rcmyk p (f 0) (f 1) (f 2) (f 3) (g 0) (g 1) (g 2) (g 3)
def RgreyG (f g : Nat → Int) : Prop := Rgrey (f 0) (f 1) (f 2) (g 0)
theorem ints3 {f : Nat → Int} {ys : List Value} (hl : ys.length = 3) (h : Ints f ys) : ∃ t0 t1 t2, ys = [.int (f 0) t0, .int (f 1) t1, .int (f 2) t2] := by
  match ys, hl with
  | [a, b, c], _ =>
    obtain ⟨t0, e0⟩ := h 0 a rfl
    obtain ⟨t1, e1⟩ := h 1 b rfl
    obtain ⟨t2, e2⟩ := h 2 c rfl
    subst e0 e1 e2
    exact ⟨t0, t1, t2, rfl⟩
theorem ints4 {f : Nat → Int} {ys : List Value} (hl : ys.length = 4) (h : Ints f ys) : ∃ t0 t1 t2 t3, ys = [.int (f 0) t0, .int (f 1) t1, .int (f 2) t2, .int (f 3) t3] := by
  match ys, hl with
  | [a, b, c, d], _ =>
    obtain ⟨t0, e0⟩ := h 0 a rfl
    obtain ⟨t1, e1⟩ := h 1 b rfl
    obtain ⟨t2, e2⟩ := h 2 c rfl
    obtain ⟨t3, e3⟩ := h 3 d rfl
    subst e0 e1 e2 e3
    exact ⟨t0, t1, t2, t3, rfl⟩
theorem Planes.sub {w : World} {a b : Led} {d : Nat → Nat → Int} {ps : List Value} (s : Sub a b) (h : Planes w a d ps) : Planes w b d ps := fun i v e => by
  obtain ⟨P, rfl, hP⟩ := h i v e
  exact ⟨P, rfl, hP.sub s⟩
def of4 (a b c d : Int) : Nat → Int | 0 => a | 1 => b | 2 => c | _ => d
theorem ints_nil {f : Nat → Int} : Ints f [] := fun _ _ e => nomatch e
theorem ints_mk {f : Nat → Int} {ys : List Value} {t : Tok} (h : Ints (fun i => f (i + 1)) ys) : Ints f (.int (f 0) t :: ys) := fun i z e => by
  cases i with
  | zero => cases e; exact ⟨t, rfl⟩
  | succ i => exact h i z e
section
variable {w : World} {news : Led} {tu dx : Addr} {a : Str} {p : Int} {ta tb tp k1 k2 k3 : Tok}
theorem g_ycc (hp : 2 ≤ p ∧ p ≤ 8) (h1 : (tu, instObj 228 dx) ∈ news) (h2 : (dx, turnD w a (Str.ofString "ycc") p ta tb tp k1 k2 k3) ∈ news) : SampG w news tu 3 3 (Ok3G p) (RyccG p) := fun news' l ys c f s hm hl hi ok => by
  obtain ⟨t0, t1, t2, rfl⟩ := ints3 hl hi
  exact (c_samp_ycc w news' tu dx l a _ _ _ p t0 t1 t2 ta tb tp k1 k2 k3 c (s _ h1) (s _ h2) hm hp ok.1 ok.2.1 ok.2.2).mono fun _ _ _ _ r D y cb cr ty tb tr c h' tk' e1 e2 e3 F N l =>
    r D [.int y ty, .int cb tb, .int cr tr] (of4 y cb cr 0) c h' tk' rfl (ints_mk (ints_mk (ints_mk ints_nil))) ⟨e1, e2, e3⟩ F N l
theorem g_rgb (hp : 2 ≤ p ∧ p ≤ 8) (h1 : (tu, instObj 228 dx) ∈ news) (h2 : (dx, turnD w (Str.ofString "ycc") (Str.ofString "rgb") p ta tb tp k1 k2 k3) ∈ news) : SampG w news tu 3 3 (Ok3G p) (RrgbG p) := fun news' l ys c f s hm hl hi ok => by
  obtain ⟨t0, t1, t2, rfl⟩ := ints3 hl hi
  exact (c_samp_rgb w news' tu dx l _ _ _ p t0 t1 t2 ta tb tp k1 k2 k3 c (s _ h1) (s _ h2) hm hp (ok.1.hi hp) (ok.2.1.hi hp) (ok.2.2.hi hp)).mono fun _ _ _ _ r D y cb cr ty tb tr c h' tk' e1 e2 e3 F N l =>
    r D [.int y ty, .int cb tb, .int cr tr] (of4 y cb cr 0) c h' tk' rfl (ints_mk (ints_mk (ints_mk ints_nil))) ⟨e1, e2, e3⟩ F N l
theorem g_ycck (hp : 2 ≤ p ∧ p ≤ 8) (h1 : (tu, instObj 228 dx) ∈ news) (h2 : (dx, turnD w a (Str.ofString "ycck") p ta tb tp k1 k2 k3) ∈ news) : SampG w news tu 4 4 (Ok3G p) (RycckG p) := fun news' l ys c f s hm hl hi ok => by
  obtain ⟨t0, t1, t2, t3, rfl⟩ := ints4 hl hi
  exact (c_samp_ycck w news' tu dx l a _ _ _ _ p t0 t1 t2 t3 ta tb tp k1 k2 k3 c (s _ h1) (s _ h2) hm hp ok.1 ok.2.1 ok.2.2).mono fun _ _ _ _ r D y cb cr ty tb tr tk c h' tk' e1 e2 e3 F N l =>
    r D [.int y ty, .int cb tb, .int cr tr, .int (f 3) tk] (of4 y cb cr (f 3)) c h' tk' rfl (ints_mk (ints_mk (ints_mk (ints_mk ints_nil)))) ⟨⟨e1, e2, e3⟩, rfl⟩ F N l
theorem g_cmyk (hp : 2 ≤ p ∧ p ≤ 8) (h1 : (tu, instObj 228 dx) ∈ news) (h2 : (dx, turnD w a (Str.ofString "cmyk") p ta tb tp k1 k2 k3) ∈ news) : SampG w news tu 4 4 (Ok3G p) (RcmykG p) := fun news' l ys c f s hm hl hi ok => by
  obtain ⟨t0, t1, t2, t3, rfl⟩ := ints4 hl hi
  exact (c_samp_cmyk w news' tu dx l a _ _ _ _ p t0 t1 t2 t3 ta tb tp k1 k2 k3 c (s _ h1) (s _ h2) hm hp (ok.1.hi hp) (ok.2.1.hi hp) (ok.2.2.hi hp)).mono fun _ _ _ _ r D y cb cr ty tb tr tk c h' tk' e1 e2 e3 F N l =>
    r D [.int y ty, .int cb tb, .int cr tr, .int (f 3) tk] (of4 y cb cr (f 3)) c h' tk' rfl (ints_mk (ints_mk (ints_mk (ints_mk ints_nil)))) ⟨⟨e1, e2, e3⟩, rfl⟩ F N l
theorem g_grey (hp : 2 ≤ p ∧ p ≤ 8) (h1 : (tu, instObj 228 dx) ∈ news) (h2 : (dx, turnD w a (Str.ofString "grey") p ta tb tp k1 k2 k3) ∈ news) : SampG w news tu 3 1 (Ok3G p) RgreyG := fun news' l ys c f s hm hl hi _ => by
  obtain ⟨t0, t1, t2, rfl⟩ := ints3 hl hi
  exact (c_samp_grey w news' tu dx l a _ _ _ p t0 t1 t2 ta tb tp k1 k2 k3 c (s _ h1) (s _ h2) hm hp).mono fun _ _ _ _ r D y ty c h' tk' e1 F N l =>
    r D [.int y ty] (of4 y 0 0 0) c h' tk' rfl (ints_mk ints_nil) e1 F N l
end
theorem c_tplanesK (w : World) (news : Led) (tu dx pl : Addr) (a b : Str) (p : Int) (ta tb tp k1 k2 k3 : Tok) (c : Nat) (v₀ : Value) (ps : List Value) (K J : Nat) (Ok : (Nat → Int) → Prop) (R : (Nat → Int) → (Nat → Int) → Prop) (d : Nat → Nat → Int)
   (hl : (v₀ :: ps).length = K) (hS : SampG w news tu K J Ok R) (hm1 : (tu, instObj 228 dx) ∈ news) (hm2 : (dx, turnD w a b p ta tb tp k1 k2 k3) ∈ news) (hm3 : (pl, listOf (v₀ :: ps).toArray c) ∈ news) (hK : K ≤ 4) (hJ : 1 ≤ J ∧ J ≤ 4)
   (hP : Planes w news d (v₀ :: ps)) (ok : ∀ q, Ok fun i => d i q) :
   Con w 244 [.ref tu, .ref pl] news 10 (fun h₀ L m Q => ∀ (D : Addr) (qs : List Value) (o : Nat → Nat → Int) (c : Nat) (T : Led) (h' : Heap) (tk' : Nat), (∀ q, q < 4 → R (fun i => d i q) fun j => o j q) → qs.length = J → Planes w T o qs → Sub news T →
     Fr h₀ L h' m → News h₀ L h' ((D, listOf qs.toArray c) :: T) → Q (.ref D) h' tk') := by
  subst hl
  exact c_tplanesG w news tu dx pl a b p ta tb tp k1 k2 k3 c v₀ ps J Ok R d hS hm1 hm2 hm3 hK hJ hP ok
end
-- NtPg_A
section
open PySem PySem.W PySem.Spec PySem.Calls PyProof.Rows PySem.SeqAt
theorem c_tpg_rgb_ycc (w : World) (news : Led) (X pl : Addr) (p : Int) (c : Nat) (t : Tok) (v₀ : Value) (ps : List Value) (d : Nat → Nat → Int) (hX : PicIn w news X (Str.ofString "rgb") p pl) (hpl : (pl, listOf (v₀ :: ps).toArray c) ∈ news) (hl : (v₀ :: ps).length = 3) (hP : Planes w news d (v₀ :: ps)) (hp : 2 ≤ p ∧ p ≤ 8) (ok : ∀ q, Ok3G p fun i => d i q) :
   Con w 254 [.ref X, .str (Str.ofString "ycc") t] news 40 (fun h₀ L m Q => ∀ (Y ql : Addr) (qs : List Value) (o : Nat → Nat → Int) (c : Nat) (T : Led) (h' : Heap) (tk' : Nat), (∀ q, q < 4 → RyccG p (fun i => d i q) fun j => o j q) →
     PicIn w T Y (Str.ofString "ycc") p ql → (ql, listOf qs.toArray c) ∈ T → qs.length = 3 → Planes w T o qs → Sub news T → Fr h₀ L h' m → News h₀ L h' T → Q (.ref Y) h' tk') := by
  w_top off
  k_with_none
  k_with "k_room" => skip
  k_with "units_room" => skip
  k_with "k_all" => ((repeat ((refine' List.forall_mem_cons.mpr ⟨?ha, ?_⟩); (case ha => k_ne))); (first | exact List.forall_mem_nil _ | assumption | exact off1_all (by assumption) | exact allLt_ne (by assumption) (by (try dsimp only); omega) | ((with_reducible rename _ ∧ AllLt _ _ => hx9); exact allLt_ne hx9.2 (by (try dsimp only); omega)) | ((with_reducible rename _ ∧ _ ∧ AllLt _ _ => hx9); exact allLt_ne hx9.2.2 (by (try dsimp only); omega)) | ((with_reducible rename _ ∧ _ ∧ _ ∧ AllLt _ _ => hx9); exact allLt_ne hx9.2.2.2 (by (try dsimp only); omega))))
  k_with "lcg_sub" => first | with_reducible assumption | ((with_reducible (repeat' (first | exact List.mem_cons_self | assumption | refine List.mem_cons_of_mem _ ?_ | refine List.mem_append_right _ ?_))); done)
  k_with "k_mem" => first | with_reducible assumption | ((with_reducible (repeat' (first | exact List.mem_cons_self | assumption | refine List.mem_cons_of_mem _ ?_ | refine List.mem_append_right _ ?_))); done)
  k_with "lcg_off" => first | exact True.intro | assumption | (refine And.intro (by first | assumption | exact ⟨by k_ne, by k_ne, by k_ne⟩) ?_; lcg_off)
  k_with "k_lt" => skip
  k_with "k_ne" => (refine neN ?_; (try dsimp only); first | with_reducible assumption | exact Ne.symm (by with_reducible assumption) | exact o_gt (by with_reducible assumption) (by lcg_sub) | exact o_1' (by with_reducible assumption) (by lcg_sub) | exact o_lt (by with_reducible assumption) (by lcg_sub) | exact o_1 (by with_reducible assumption) (by lcg_sub) | exact o_3I (by with_reducible assumption) (by lcg_sub) | exact Ne.symm (o_3I (by with_reducible assumption) (by lcg_sub)) | exact o_3C (by with_reducible assumption) (by lcg_sub) | exact Ne.symm (o_3C (by with_reducible assumption) (by lcg_sub)) | exact o_3D (by with_reducible assumption) (by lcg_sub) | exact Ne.symm (o_3D (by with_reducible assumption) (by lcg_sub)) | exact o_4I (by with_reducible assumption) (by lcg_sub) | exact Ne.symm (o_4I (by with_reducible assumption) (by lcg_sub)) | exact o_4C (by with_reducible assumption) (by lcg_sub) | exact Ne.symm (o_4C (by with_reducible assumption) (by lcg_sub)) | exact o_4X (by with_reducible assumption) (by lcg_sub) | exact Ne.symm (o_4X (by with_reducible assumption) (by lcg_sub)) | exact o_4D (by with_reducible assumption) (by lcg_sub) | exact Ne.symm (o_4D (by with_reducible assumption) (by lcg_sub)) | ((repeat (first | exact cn1 | exact cn2 | exact cn3 | exact cn4 | exact cn5 | exact cn6 | exact cn7 | exact Ne.symm cn1 | exact Ne.symm cn2 | exact Ne.symm cn3 | exact Ne.symm cn4 | exact Ne.symm cn5 | exact Ne.symm cn6 | exact Ne.symm cn7 | refine cnS ?_)); done))
  k_with "k_all" => ((repeat ((refine' List.forall_mem_cons.mpr ⟨?ha, ?_⟩); (case ha => k_ne))); (first | exact List.forall_mem_nil _ | with_reducible assumption | exact all_lt (by with_reducible assumption) (by (repeat' (first | with_reducible assumption | exact Sub.refl | refine Sub.cons ?_ | refine Sub.app ?_))) | exact all_1 (by with_reducible assumption) (by (repeat' (first | with_reducible assumption | exact Sub.refl | refine Sub.cons ?_ | refine Sub.app ?_))) | exact all_3I (by with_reducible assumption) (by (repeat' (first | with_reducible assumption | exact Sub.refl | refine Sub.cons ?_ | refine Sub.app ?_))) | exact all_3C (by with_reducible assumption) (by (repeat' (first | with_reducible assumption | exact Sub.refl | refine Sub.cons ?_ | refine Sub.app ?_))) | exact all_3D (by with_reducible assumption) (by (repeat' (first | with_reducible assumption | exact Sub.refl | refine Sub.cons ?_ | refine Sub.app ?_))) | exact all_4I (by with_reducible assumption) (by (repeat' (first | with_reducible assumption | exact Sub.refl | refine Sub.cons ?_ | refine Sub.app ?_))) | exact all_4C (by with_reducible assumption) (by (repeat' (first | with_reducible assumption | exact Sub.refl | refine Sub.cons ?_ | refine Sub.app ?_))) | exact all_4X (by with_reducible assumption) (by (repeat' (first | with_reducible assumption | exact Sub.refl | refine Sub.cons ?_ | refine Sub.app ?_))) | exact all_4D (by with_reducible assumption) (by (repeat' (first | with_reducible assumption | exact Sub.refl | refine Sub.cons ?_ | refine Sub.app ?_))) | exact allLt_ne (by with_reducible assumption) (by repeat (first | exact Nat.le_refl _ | refine Nat.le_succ_of_le ?_))))
  k_with "k_enter" => skip
  k_with "FinE" => ((unfold LCg.FinE); intro D' h' tk' F' N' o1'; (try simp only [List.nil_append, List.cons_append] at N'); (try dsimp only))
  k_with "FinA" => ((unfold LCg.FinA); intro D' h' tk' F' N' o1'; (try simp only [List.nil_append, List.cons_append] at N'); (try dsimp only))
  k_with "CompEnd" => (refine' nt_compEnd ?F ?N ?P1 ?P2 ?P3 ?off ?S ?_; (case F => assumption); (case N => assumption); (case P1 => repeat' (first | exact Pick.head | refine' Pick.tail ?_)); (case P2 => repeat' (first | exact Pick.head | refine' Pick.tail ?_)); (case P3 => repeat' (first | exact Pick.head | refine' Pick.tail ?_)); (case off => lcg_off); (case S => first | lcg_src | assumption))
  k_with "eval ListComp" => (k_here; (with_reducible show wpAny _ _ (eval (PySem.Expr.ListComp _ [⟨PySem.Expr.Name _ _, _, [], _⟩] _ _) _) _ _ _); (try k_fold); k_dflt (refine LCg.ListComp_U (F₀ := by k_asm) (by with_unfolding_all rfl) (by decide) (by rfl) (by decide) (by rfl) ?_))
  k_with "exec Assign cons ListComp" => (k_here; k_dflt (refine LCg.Assign_ListComp_U (F₀ := by k_asm) (by rfl) (by with_unfolding_all rfl) (by with_unfolding_all rfl) (by decide) (by rfl) (by decide) (by rfl) (by rfl) (by rfl) ?_))
  k_with "eval ListComp" => (k_here; (with_reducible show wpAny _ _ (eval (PySem.Expr.ListComp _ [⟨PySem.Expr.Name _ _, _, [_], _⟩] _ _) _) _ _ _); (try k_fold); k_dflt (refine LCt.ListComp_T (F₀ := by k_asm) (by with_unfolding_all rfl) (by decide) (by rfl) (by decide) (by rfl) ?_))
  k_with "CompSrcT" => (k_here; k_dflt (first | (refine LCt.CompSrcT.ledger (by rfl) (by k_asm) (by k_asm) (by lcg_sub) (by first | exact Nat.le_of_ble_eq_true rfl | size_fits) ?_; intro g'; lct_lit) | (refine LCt.CompSrcT.range (by rfl) (by k_asm) (by k_asm) (by assumption) (by first | decide | rfl) (by first | rfl | decide) (by first | exact Nat.le_of_ble_eq_true rfl | size_fits) ?_; intro g'; lct_lit)))
  k_with "CompRestT" => (with_unfolding_all first | (refine LCt.CompRestT.succ ?_; intro v' I' oI' C' oC' D' m' h' tk' E' hv' hC' hx' F' N' off' ne'; (first | lcg_open hv' | (obtain ⟨t9', hv9'⟩ := hv'; subst hv9')); (obtain ⟨ne1', ne2', ne3'⟩ := ne')) | refine LCt.CompRestT.zero ?_)
  k_with "CompSrc" => (k_here; k_dflt (first | (refine LCg.CompSrc.ledger (by rfl) (by k_asm) (by k_asm) (by lcg_sub) (by first | exact Nat.le_of_ble_eq_true rfl | size_fits) ?_; intro g'; lcg_lit) | (refine LCg.CompSrc.range (by rfl) (by k_asm) (by k_asm) (by assumption) (by first | decide | rfl) (by first | rfl | decide) (by first | exact Nat.le_of_ble_eq_true rfl | size_fits) ?_; intro g'; lcg_lit)))
  k_with "CompRest" => (with_unfolding_all first | (refine LCg.CompRest.succ ?_; intro v' I' oI' C' oC' D' m' h' tk' E' hv' hC' hx' F' N' off' ne'; (first | lcg_open hv' | (obtain ⟨t9', hv9'⟩ := hv'; subst hv9')); (obtain ⟨ne1', ne2', ne3'⟩ := ne')) | refine LCg.CompRest.zero ?_)
  k_with "execs cons" => ((with_reducible refine gen_toks (fun tk => ?_)); (with_reducible refine wpAny_execs_cons ?_); (try dsimp only); (try k_fold))
  k_with "subscriptTail" => (k_here; (with_reducible show wpAny _ _ (subscriptTail _ _ (Value.ref _) (Value.int _ _)) _ _ _); k_dflt (first | (refine' nt_item ?N ?hm ?k2 ?k3 ?k4 ?_ ?k6; (case N => k_asm); (case hm => lcg_sub); (case k2 => decide); (case k3 => decide); (case k4 => exact rfl); (case k6 => with_unfolding_all rfl); k_whole) | (refine' nt_itemK ?X ?F ?hl ?k2 ?k3 ?k4 ?_ ?k6 ?k7; (case F => k_asm); (case X => k_asm); (case hl => k_is); (case k2 => decide); (case k3 => decide); (case k4 => exact rfl); (case k6 => with_unfolding_all rfl); (case k7 => intro _; with_unfolding_all rfl); k_whole) | (refine' nt_itemT ?N ?hm ?k2 ?k3 ?k4 ?_ ?k6 ?k7; (case N => k_asm); (case hm => lcg_sub); (case k2 => decide); (case k3 => decide); (case k4 => exact rfl); (case k6 => with_unfolding_all rfl); (case k7 => intro _; with_unfolding_all rfl); k_whole)))
  k_with "subscriptTail Name Constant ref int" => (k_here; (with_reducible show wpAny _ _ (subscriptTail _ _ (Value.ref _) (Value.int _ _)) _ _ _); k_dflt (first | (refine' nt_item ?N ?hm ?k2 ?k3 ?k4 ?_ ?k6; (case N => k_asm); (case hm => lcg_sub); (case k2 => decide); (case k3 => decide); (case k4 => exact rfl); (case k6 => with_unfolding_all rfl); k_whole) | (refine' nt_itemK ?X ?F ?hl ?k2 ?k3 ?k4 ?_ ?k6 ?k7; (case F => k_asm); (case X => k_asm); (case hl => k_is); (case k2 => decide); (case k3 => decide); (case k4 => exact rfl); (case k6 => with_unfolding_all rfl); (case k7 => intro _; with_unfolding_all rfl); k_whole) | (refine' nt_itemT ?N ?hm ?k2 ?k3 ?k4 ?_ ?k6 ?k7; (case N => k_asm); (case hm => lcg_sub); (case k2 => decide); (case k3 => decide); (case k4 => exact rfl); (case k6 => with_unfolding_all rfl); (case k7 => intro _; with_unfolding_all rfl); k_whole)))
  k_with "subscriptTail Name Name ref int" => (k_here; (with_reducible show wpAny _ _ (subscriptTail _ _ (Value.ref _) (Value.int _ _)) _ _ _); k_dflt (first | (refine' nt_item ?N ?hm ?k2 ?k3 ?k4 ?_ ?k6; (case N => k_asm); (case hm => lcg_sub); (case k2 => decide); (case k3 => decide); (case k4 => exact rfl); (case k6 => with_unfolding_all rfl); k_whole) | (refine' nt_itemK ?X ?F ?hl ?k2 ?k3 ?k4 ?_ ?k6 ?k7; (case F => k_asm); (case X => k_asm); (case hl => k_is); (case k2 => decide); (case k3 => decide); (case k4 => exact rfl); (case k6 => with_unfolding_all rfl); (case k7 => intro _; with_unfolding_all rfl); k_whole) | (refine' nt_itemT ?N ?hm ?k2 ?k3 ?k4 ?_ ?k6 ?k7; (case N => k_asm); (case hm => lcg_sub); (case k2 => decide); (case k3 => decide); (case k4 => exact rfl); (case k6 => with_unfolding_all rfl); (case k7 => intro _; with_unfolding_all rfl); k_whole)))
  k_with "subscriptTail Attribute Name Constant ref int" => (k_here; (with_reducible show wpAny _ _ (subscriptTail _ _ (Value.ref _) (Value.int _ _)) _ _ _); k_dflt (first | (refine' nt_item ?N ?hm ?k2 ?k3 ?k4 ?_ ?k6; (case N => k_asm); (case hm => lcg_sub); (case k2 => decide); (case k3 => decide); (case k4 => exact rfl); (case k6 => with_unfolding_all rfl); k_whole) | (refine' nt_itemK ?X ?F ?hl ?k2 ?k3 ?k4 ?_ ?k6 ?k7; (case F => k_asm); (case X => k_asm); (case hl => k_is); (case k2 => decide); (case k3 => decide); (case k4 => exact rfl); (case k6 => with_unfolding_all rfl); (case k7 => intro _; with_unfolding_all rfl); k_whole) | (refine' nt_itemT ?N ?hm ?k2 ?k3 ?k4 ?_ ?k6 ?k7; (case N => k_asm); (case hm => lcg_sub); (case k2 => decide); (case k3 => decide); (case k4 => exact rfl); (case k6 => with_unfolding_all rfl); (case k7 => intro _; with_unfolding_all rfl); k_whole)))
  k_with "subscriptTail Attribute Name Name ref int" => (k_here; (with_reducible show wpAny _ _ (subscriptTail _ _ (Value.ref _) (Value.int _ _)) _ _ _); k_dflt (first | (refine' nt_item ?N ?hm ?k2 ?k3 ?k4 ?_ ?k6; (case N => k_asm); (case hm => lcg_sub); (case k2 => decide); (case k3 => decide); (case k4 => exact rfl); (case k6 => with_unfolding_all rfl); k_whole) | (refine' nt_itemK ?X ?F ?hl ?k2 ?k3 ?k4 ?_ ?k6 ?k7; (case F => k_asm); (case X => k_asm); (case hl => k_is); (case k2 => decide); (case k3 => decide); (case k4 => exact rfl); (case k6 => with_unfolding_all rfl); (case k7 => intro _; with_unfolding_all rfl); k_whole) | (refine' nt_itemT ?N ?hm ?k2 ?k3 ?k4 ?_ ?k6 ?k7; (case N => k_asm); (case hm => lcg_sub); (case k2 => decide); (case k3 => decide); (case k4 => exact rfl); (case k6 => with_unfolding_all rfl); (case k7 => intro _; with_unfolding_all rfl); k_whole)))
  k_with "subscriptTail Subscript Name ref int" => (k_here; (with_reducible show wpAny _ _ (subscriptTail _ _ (Value.ref _) (Value.int _ _)) _ _ _); k_dflt (first | (refine' nt_item ?N ?hm ?k2 ?k3 ?k4 ?_ ?k6; (case N => k_asm); (case hm => lcg_sub); (case k2 => decide); (case k3 => decide); (case k4 => exact rfl); (case k6 => with_unfolding_all rfl); k_whole) | (refine' nt_itemK ?X ?F ?hl ?k2 ?k3 ?k4 ?_ ?k6 ?k7; (case F => k_asm); (case X => k_asm); (case hl => k_is); (case k2 => decide); (case k3 => decide); (case k4 => exact rfl); (case k6 => with_unfolding_all rfl); (case k7 => intro _; with_unfolding_all rfl); k_whole) | (refine' nt_itemT ?N ?hm ?k2 ?k3 ?k4 ?_ ?k6 ?k7; (case N => k_asm); (case hm => lcg_sub); (case k2 => decide); (case k3 => decide); (case k4 => exact rfl); (case k6 => with_unfolding_all rfl); (case k7 => intro _; with_unfolding_all rfl); k_whole)))
  k_with "subscriptTail Subscript Constant ref int" => (k_here; (with_reducible show wpAny _ _ (subscriptTail _ _ (Value.ref _) (Value.int _ _)) _ _ _); k_dflt (first | (refine' nt_item ?N ?hm ?k2 ?k3 ?k4 ?_ ?k6; (case N => k_asm); (case hm => lcg_sub); (case k2 => decide); (case k3 => decide); (case k4 => exact rfl); (case k6 => with_unfolding_all rfl); k_whole) | (refine' nt_itemK ?X ?F ?hl ?k2 ?k3 ?k4 ?_ ?k6 ?k7; (case F => k_asm); (case X => k_asm); (case hl => k_is); (case k2 => decide); (case k3 => decide); (case k4 => exact rfl); (case k6 => with_unfolding_all rfl); (case k7 => intro _; with_unfolding_all rfl); k_whole) | (refine' nt_itemT ?N ?hm ?k2 ?k3 ?k4 ?_ ?k6 ?k7; (case N => k_asm); (case hm => lcg_sub); (case k2 => decide); (case k3 => decide); (case k4 => exact rfl); (case k6 => with_unfolding_all rfl); (case k7 => intro _; with_unfolding_all rfl); k_whole)))
  k_with "setItem ref int" => (k_here; k_dflt (refine' ki_set ?F ?N ?k2 ?k3 ?k4 ?U ?_; (case F => k_asm); (case N => k_asm); (case U => k_upd); (case k2 => decide); (case k3 => decide); (case k4 => exact rfl); k_whole); intro h' F' N'; (try k_sweep))
  k_with "eval Name" => (k_here; (with_reducible show wpAny _ _ (eval (Expr.Name _ _) (envOf _ _ _ _ _)) _ _ _); (with_reducible rename Fr _ _ _ _ => kF); k_dflt (first | (name_kind "local"; (refine' ld kF ?k2 ?_ ?a ?b ?c; (case k2 => exact rfl); (case a => kernel_rfl!); (case b => kernel_rfl!); (case c => decide +kernel)); k_whole) | (name_kind "globalImplicit"; (refine' name_K kF ?k1 ?k2 ?k3 ?_ ?a ?b ?c; (case k1 => k_asm); (case k2 => k_asm); (case k3 => k_is); (case a => kernel_rfl!); (case b => kernel_rfl!); (case c => decide +kernel); k_whole)) | (refine' name_B kF ?k1 ?k2 ?k3 ?k4 ?k5 ?_; (case k1 => k_asm); (case k2 => k_asm); (case k3 => k_is); (case k4 => boot_by_name); (case k5 => decide); k_whole)))
  k_with "compareOp NotEq ref ref" => (k_here; k_dflt (first | (with_reducible refine' ne_t3 ?N ?ha ?hb ?e1 ?e2 ?e3 ?hu ?_; (case N => k_asm); (case ha => lcg_sub); (case hb => lcg_sub); (case e1 => first | assumption | exact (Grey.h (by assumption) (by assumption) (by assumption)).1 | exact (Grey2.h (by assumption) (by assumption) (by assumption)).1 | rfl); (case e2 => first | assumption | exact (Grey.h (by assumption) (by assumption) (by assumption)).2.1 | exact (Grey2.h (by assumption) (by assumption) (by assumption)).2.1 | rfl); (case e3 => first | assumption | exact (Grey.h (by assumption) (by assumption) (by assumption)).2.2 | exact (Grey2.h (by assumption) (by assumption) (by assumption)).2.2 | rfl); (case hu => units_room)) | (with_reducible refine' ne_l3 ?N ?ha ?hb ?e1 ?e2 ?e3 ?hu ?_; (case N => k_asm); (case ha => lcg_sub); (case hb => lcg_sub); (case e1 => first | assumption | exact (Grey.h (by assumption) (by assumption) (by assumption)).1 | exact (Grey2.h (by assumption) (by assumption) (by assumption)).1 | rfl); (case e2 => first | assumption | exact (Grey.h (by assumption) (by assumption) (by assumption)).2.1 | exact (Grey2.h (by assumption) (by assumption) (by assumption)).2.1 | rfl); (case e3 => first | assumption | exact (Grey.h (by assumption) (by assumption) (by assumption)).2.2 | exact (Grey2.h (by assumption) (by assumption) (by assumption)).2.2 | rfl); (case hu => units_room)) | (with_reducible refine' ne_l0 ?N ?ha ?hb ?hu ?_; (case N => k_asm); (case ha => lcg_sub); (case hb => lcg_sub); (case hu => units_room))))
  k_with "compareOp Eq ref ref" => (k_here; k_dflt ((with_reducible refine' eq_l0 ?N ?ha ?hb ?hu ?_; (case N => k_asm); (case ha => lcg_sub); (case hb => lcg_sub); (case hu => units_room))))
  k_with "eval Call" => ((with_reducible show wpAny _ _ (eval (Expr.Call (Expr.Name _ _) _ [] _) (envOf _ _ _ _ _)) _ _ _); k_dflt (refine Call_ ?_))
  k_with "call builtin:list.append" => (k_here; (with_reducible show wpAny _ _ (call (Value.builtin _) [Value.ref _, _]) _ _ _); k_dflt (refine' nt_append ?F ?N ?P ?off ?hsz ?_; (case F => k_asm); (case N => k_asm); (case P => repeat' (first | exact Pick.head | refine' Pick.tail ?_)); (case off => k_all); (case hsz => first | exact Nat.le_of_ble_eq_true rfl | size_fits)); intro h' F' N'; (try simp only [List.cons_append, List.nil_append] at N'); (try k_sweep))
  k_with "exec For Name Call cons nil" => (k_here; (with_reducible rename Fr _ _ _ _ => lF'); (with_unfolding_all refine' For_turns lF' ?_; k_whole))
  k_with "pyIter ref" => (k_here; (with_reducible show wpAny _ _ (pyIter (Value.ref _)) (fun it s₂ => TurnsAt _ _ _ _ _ _ _ _ _ it s₂) _ _); k_dflt (refine' rangeTurns ?hh ?hr ?hs ?hn ?F ?N ?_; (case hh => rfl); (case hr => assumption); (case hs => first | decide | rfl); (case hn => first | rfl | decide); (case F => k_asm); (case N => k_asm)); intro i' l1'; (try k_lt l1'))
  k_with "UnrEndW" => (refine' unrEnd ?F ?N ?P ?off ⟨trivial, ?_⟩; (case F => assumption); (case N => assumption); (case P => repeat' (first | exact Pick.head | refine' Pick.tail ?_)); (case off => k_all))
  k_with "eval ListComp" => (k_here; (with_reducible show wpAny _ _ (eval (PySem.Expr.ListComp _ [⟨PySem.Expr.Name _ _, _, [], _⟩] _ _) _) _ _ _); (try k_fold); k_dflt (refine ListComp_X (F₀ := by k_asm) (by with_unfolding_all rfl) (by intro _; rfl) (by intro _; rfl) (by rfl) (by decide) (by rfl) ?_))
  k_with "SrcX" => (k_here; k_dflt (refine SrcX.intro (by rfl) (by k_asm) (by k_asm) (by assumption) (by first | decide | rfl) (by first | rfl | decide) (by first | exact Nat.le_of_ble_eq_true rfl | size_fits) ?_; intro g'))
  k_with "RestX" => (with_unfolding_all first | (refine RestX.succ ?_; intro t' I' oI' C' oC' X' oX' D' h' tk' E' hX' F' N' off' ne'; (obtain ⟨ne1', ne2', ne3', ne4', ne5', ne6'⟩ := ne')) | refine RestX.zero ?_)
  k_with "EndX" => (refine' EndX.intro ?F ?N ?P1 ?P2 ?P3 ?P4 ?off ?_; (case F => assumption); (case N => assumption); (case P1 => repeat' (first | exact Pick.head | refine' Pick.tail ?_)); (case P2 => repeat' (first | exact Pick.head | refine' Pick.tail ?_)); (case P3 => repeat' (first | exact Pick.head | refine' Pick.tail ?_)); (case P4 => repeat' (first | exact Pick.head | refine' Pick.tail ?_)); (case off => repeat' (first | exact True.intro | assumption | (refine And.intro (by first | assumption | exact ⟨by k_ne, by k_ne, by k_ne, by k_ne⟩) ?_))))
  k_with "call ref" => (k_here; (with_reducible show wpAny _ _ (call (Value.ref 239) _) _ _ _); k_dflt (refine' Con.use (c_is_rgb_ycc _ _ _ _) ?B ?F ?X ?N ?T ?hk ?hd ?hu ?_; (case F => k_asm); (case N => k_asm); (case T => k_asm); (case X => k_asm); (case B => k_asm); (case hk => first | exact rfl | assumption); (case hd => ktr_room); (case hu => ktr_units); k_whole); intro h' tk' F' N'; (try k_sweep))
  k_with "call ref" => (k_here; (with_reducible show wpAny _ _ (call (Value.ref 244) _) _ _ _); k_dflt (refine' Con.use (c_tplanesK _ _ _ _ _ _ _ _ _ _ _ _ _ _ _ _ _ 3 3 _ _ _ ?hl (g_ycc ?hp ?hm1 ?hm2) ?hm1 ?hm2 ?hm3 (by decide) (by decide) ?hP ?ok) ?B ?F ?X ?N ?T ?hk ?hd ?hu ?_; (case F => k_asm); (case N => k_asm); (case hl => assumption); (case hp => assumption); (case hm1 => lcg_sub); (case hm2 => lcg_sub); (case hm3 => lcg_sub); (case hP => (refine' Planes.sub ?s9 ?h9; (case h9 => with_reducible assumption); (case s9 => (repeat' (first | with_reducible assumption | exact Sub.refl | refine Sub.cons ?_ | refine Sub.app ?_))))); (case ok => assumption); (case T => k_asm); (case X => k_asm); (case B => k_asm); (case hk => first | exact rfl | assumption); (case hd => ktr_room); (case hu => ktr_units); k_whole); intro D' qs' o' c' T' h' tk' r' lq' p' s' F' N'; (try k_sweep))
  k_with "call ref" => (k_here; (with_reducible show wpAny _ _ (call (Value.ref 84) _) _ _ _); k_dflt (refine' Con.use (c_plane _ _ _ _ _ _ _) ?B ?F ?X ?N ?T ?hk ?hd ?hu ?_; (case F => k_asm); (case N => k_asm); (case T => k_asm); (case X => k_asm); (case B => k_asm); (case hk => first | exact rfl | assumption); (case hd => ktr_room); (case hu => ktr_units); k_whole); intro x' d' k1' k2' k3' h' tk' F' N' l1' l2' l3'; skip; (try k_sweep))
  k_with "call ref" => (k_here; (with_reducible show wpAny _ _ (call (Value.ref 122) _) _ _ _); k_dflt (refine' Con.use (c_pic _ _ _ _ _ _ _) ?B ?F ?X ?N ?T ?hk ?hd ?hu ?_; (case F => k_asm); (case N => k_asm); (case T => k_asm); (case X => k_asm); (case B => k_asm); (case hk => first | exact rfl | assumption); (case hd => ktr_room); (case hu => ktr_units); k_whole); intro x' d' k1' k2' k3' h' tk' F' N' l1' l2' l3'; skip; (try k_sweep))
  k_with "call ref" => (k_here; (with_reducible show wpAny _ _ (call (Value.ref 228) _) _ _ _); k_dflt (refine' Con.use (c_turning _ _ _ _ _ _ _ _) ?B ?F ?X ?N ?T ?hk ?hd ?hu ?_; (case F => k_asm); (case N => k_asm); (case T => k_asm); (case X => k_asm); (case B => k_asm); (case hk => first | exact rfl | assumption); (case hd => ktr_room); (case hu => ktr_units); k_whole); intro x' d' k1' k2' k3' h' tk' F' N' l1' l2' l3'; skip; (try k_sweep))
  unfold Con
  k_fill
  intro mean mg mb dp un gd cn cs aa ccd cl outer A₀ base h₀ L m s Q E B F X9 N T9 hk hd hu hret
  obtain ⟨dX, taX, tpX, k1X, k2X, k3X, mX1, mX2⟩ := hX
  obtain ⟨hp₀, gn₀, dr₀, tk₀, os₀⟩ := s
  refine wpAny_call ?_
  k_dflt k_enter
  k_steps
  all_goals (rename Fr h₀ L _ _ => hF; rename News h₀ L _ _ => hN)
  refine' hret _ _ _ _ _ _ _ _ ?r ?pc ?ql ?len ?pq ?s0 ?F ?N
  case F => exact hF
  case N => exact hN
  case pc => exact ⟨_, _, _, _, _, _, by lcg_sub, by lcg_sub⟩
  case ql => lcg_sub
  case r => assumption
  case len => assumption
  case pq =>
    refine' Planes.sub ?s9 ?h9
    case h9 => with_reducible assumption
    case s9 => repeat (with_reducible first | assumption | exact Sub.refl | refine Sub.cons ?_)
  case s0 =>
    repeat (with_reducible first | assumption | exact Sub.refl | refine Sub.cons ?_)
    refine' Sub.trans ?u9 ?v9
    case v9 => with_reducible assumption
    case u9 => repeat (with_reducible first | exact Sub.refl | refine Sub.cons ?_)
end
-- NtPg_B
section
open PySem PySem.W PySem.Spec PySem.Calls PyProof.Rows PySem.SeqAt
theorem c_tpg_ycc_rgb (w : World) (news : Led) (X pl : Addr) (p : Int) (c : Nat) (t : Tok) (v₀ : Value) (ps : List Value) (d : Nat → Nat → Int) (hX : PicIn w news X (Str.ofString "ycc") p pl) (hpl : (pl, listOf (v₀ :: ps).toArray c) ∈ news) (hl : (v₀ :: ps).length = 3) (hP : Planes w news d (v₀ :: ps)) (hp : 2 ≤ p ∧ p ≤ 8) (ok : ∀ q, Ok3G p fun i => d i q) :
   Con w 254 [.ref X, .str (Str.ofString "rgb") t] news 40 (fun h₀ L m Q => ∀ (Y ql : Addr) (qs : List Value) (o : Nat → Nat → Int) (c : Nat) (T : Led) (h' : Heap) (tk' : Nat), (∀ q, q < 4 → RrgbG p (fun i => d i q) fun j => o j q) →
     PicIn w T Y (Str.ofString "rgb") p ql → (ql, listOf qs.toArray c) ∈ T → qs.length = 3 → Planes w T o qs → Sub news T → Fr h₀ L h' m → News h₀ L h' T → Q (.ref Y) h' tk') := by
  w_top off
  k_with_none
  k_with "k_room" => skip
  k_with "units_room" => skip
  k_with "k_all" => ((repeat ((refine' List.forall_mem_cons.mpr ⟨?ha, ?_⟩); (case ha => k_ne))); (first | exact List.forall_mem_nil _ | assumption | exact off1_all (by assumption) | exact allLt_ne (by assumption) (by (try dsimp only); omega) | ((with_reducible rename _ ∧ AllLt _ _ => hx9); exact allLt_ne hx9.2 (by (try dsimp only); omega)) | ((with_reducible rename _ ∧ _ ∧ AllLt _ _ => hx9); exact allLt_ne hx9.2.2 (by (try dsimp only); omega)) | ((with_reducible rename _ ∧ _ ∧ _ ∧ AllLt _ _ => hx9); exact allLt_ne hx9.2.2.2 (by (try dsimp only); omega))))
  k_with "lcg_sub" => first | with_reducible assumption | ((with_reducible (repeat' (first | exact List.mem_cons_self | assumption | refine List.mem_cons_of_mem _ ?_ | refine List.mem_append_right _ ?_))); done)
  k_with "k_mem" => first | with_reducible assumption | ((with_reducible (repeat' (first | exact List.mem_cons_self | assumption | refine List.mem_cons_of_mem _ ?_ | refine List.mem_append_right _ ?_))); done)
  k_with "lcg_off" => first | exact True.intro | assumption | (refine And.intro (by first | assumption | exact ⟨by k_ne, by k_ne, by k_ne⟩) ?_; lcg_off)
  k_with "k_lt" => skip
  k_with "k_ne" => (refine neN ?_; (try dsimp only); first | with_reducible assumption | exact Ne.symm (by with_reducible assumption) | exact o_gt (by with_reducible assumption) (by lcg_sub) | exact o_1' (by with_reducible assumption) (by lcg_sub) | exact o_lt (by with_reducible assumption) (by lcg_sub) | exact o_1 (by with_reducible assumption) (by lcg_sub) | exact o_3I (by with_reducible assumption) (by lcg_sub) | exact Ne.symm (o_3I (by with_reducible assumption) (by lcg_sub)) | exact o_3C (by with_reducible assumption) (by lcg_sub) | exact Ne.symm (o_3C (by with_reducible assumption) (by lcg_sub)) | exact o_3D (by with_reducible assumption) (by lcg_sub) | exact Ne.symm (o_3D (by with_reducible assumption) (by lcg_sub)) | exact o_4I (by with_reducible assumption) (by lcg_sub) | exact Ne.symm (o_4I (by with_reducible assumption) (by lcg_sub)) | exact o_4C (by with_reducible assumption) (by lcg_sub) | exact Ne.symm (o_4C (by with_reducible assumption) (by lcg_sub)) | exact o_4X (by with_reducible assumption) (by lcg_sub) | exact Ne.symm (o_4X (by with_reducible assumption) (by lcg_sub)) | exact o_4D (by with_reducible assumption) (by lcg_sub) | exact Ne.symm (o_4D (by with_reducible assumption) (by lcg_sub)) | ((repeat (first | exact cn1 | exact cn2 | exact cn3 | exact cn4 | exact cn5 | exact cn6 | exact cn7 | exact Ne.symm cn1 | exact Ne.symm cn2 | exact Ne.symm cn3 | exact Ne.symm cn4 | exact Ne.symm cn5 | exact Ne.symm cn6 | exact Ne.symm cn7 | refine cnS ?_)); done))
  k_with "k_all" => ((repeat ((refine' List.forall_mem_cons.mpr ⟨?ha, ?_⟩); (case ha => k_ne))); (first | exact List.forall_mem_nil _ | with_reducible assumption | exact all_lt (by with_reducible assumption) (by (repeat' (first | with_reducible assumption | exact Sub.refl | refine Sub.cons ?_ | refine Sub.app ?_))) | exact all_1 (by with_reducible assumption) (by (repeat' (first | with_reducible assumption | exact Sub.refl | refine Sub.cons ?_ | refine Sub.app ?_))) | exact all_3I (by with_reducible assumption) (by (repeat' (first | with_reducible assumption | exact Sub.refl | refine Sub.cons ?_ | refine Sub.app ?_))) | exact all_3C (by with_reducible assumption) (by (repeat' (first | with_reducible assumption | exact Sub.refl | refine Sub.cons ?_ | refine Sub.app ?_))) | exact all_3D (by with_reducible assumption) (by (repeat' (first | with_reducible assumption | exact Sub.refl | refine Sub.cons ?_ | refine Sub.app ?_))) | exact all_4I (by with_reducible assumption) (by (repeat' (first | with_reducible assumption | exact Sub.refl | refine Sub.cons ?_ | refine Sub.app ?_))) | exact all_4C (by with_reducible assumption) (by (repeat' (first | with_reducible assumption | exact Sub.refl | refine Sub.cons ?_ | refine Sub.app ?_))) | exact all_4X (by with_reducible assumption) (by (repeat' (first | with_reducible assumption | exact Sub.refl | refine Sub.cons ?_ | refine Sub.app ?_))) | exact all_4D (by with_reducible assumption) (by (repeat' (first | with_reducible assumption | exact Sub.refl | refine Sub.cons ?_ | refine Sub.app ?_))) | exact allLt_ne (by with_reducible assumption) (by repeat (first | exact Nat.le_refl _ | refine Nat.le_succ_of_le ?_))))
  k_with "k_enter" => skip
  k_with "FinE" => ((unfold LCg.FinE); intro D' h' tk' F' N' o1'; (try simp only [List.nil_append, List.cons_append] at N'); (try dsimp only))
  k_with "FinA" => ((unfold LCg.FinA); intro D' h' tk' F' N' o1'; (try simp only [List.nil_append, List.cons_append] at N'); (try dsimp only))
  k_with "CompEnd" => (refine' nt_compEnd ?F ?N ?P1 ?P2 ?P3 ?off ?S ?_; (case F => assumption); (case N => assumption); (case P1 => repeat' (first | exact Pick.head | refine' Pick.tail ?_)); (case P2 => repeat' (first | exact Pick.head | refine' Pick.tail ?_)); (case P3 => repeat' (first | exact Pick.head | refine' Pick.tail ?_)); (case off => lcg_off); (case S => first | lcg_src | assumption))
  k_with "eval ListComp" => (k_here; (with_reducible show wpAny _ _ (eval (PySem.Expr.ListComp _ [⟨PySem.Expr.Name _ _, _, [], _⟩] _ _) _) _ _ _); (try k_fold); k_dflt (refine LCg.ListComp_U (F₀ := by k_asm) (by with_unfolding_all rfl) (by decide) (by rfl) (by decide) (by rfl) ?_))
  k_with "exec Assign cons ListComp" => (k_here; k_dflt (refine LCg.Assign_ListComp_U (F₀ := by k_asm) (by rfl) (by with_unfolding_all rfl) (by with_unfolding_all rfl) (by decide) (by rfl) (by decide) (by rfl) (by rfl) (by rfl) ?_))
  k_with "eval ListComp" => (k_here; (with_reducible show wpAny _ _ (eval (PySem.Expr.ListComp _ [⟨PySem.Expr.Name _ _, _, [_], _⟩] _ _) _) _ _ _); (try k_fold); k_dflt (refine LCt.ListComp_T (F₀ := by k_asm) (by with_unfolding_all rfl) (by decide) (by rfl) (by decide) (by rfl) ?_))
  k_with "CompSrcT" => (k_here; k_dflt (first | (refine LCt.CompSrcT.ledger (by rfl) (by k_asm) (by k_asm) (by lcg_sub) (by first | exact Nat.le_of_ble_eq_true rfl | size_fits) ?_; intro g'; lct_lit) | (refine LCt.CompSrcT.range (by rfl) (by k_asm) (by k_asm) (by assumption) (by first | decide | rfl) (by first | rfl | decide) (by first | exact Nat.le_of_ble_eq_true rfl | size_fits) ?_; intro g'; lct_lit)))
  k_with "CompRestT" => (with_unfolding_all first | (refine LCt.CompRestT.succ ?_; intro v' I' oI' C' oC' D' m' h' tk' E' hv' hC' hx' F' N' off' ne'; (first | lcg_open hv' | (obtain ⟨t9', hv9'⟩ := hv'; subst hv9')); (obtain ⟨ne1', ne2', ne3'⟩ := ne')) | refine LCt.CompRestT.zero ?_)
  k_with "CompSrc" => (k_here; k_dflt (first | (refine LCg.CompSrc.ledger (by rfl) (by k_asm) (by k_asm) (by lcg_sub) (by first | exact Nat.le_of_ble_eq_true rfl | size_fits) ?_; intro g'; lcg_lit) | (refine LCg.CompSrc.range (by rfl) (by k_asm) (by k_asm) (by assumption) (by first | decide | rfl) (by first | rfl | decide) (by first | exact Nat.le_of_ble_eq_true rfl | size_fits) ?_; intro g'; lcg_lit)))
  k_with "CompRest" => (with_unfolding_all first | (refine LCg.CompRest.succ ?_; intro v' I' oI' C' oC' D' m' h' tk' E' hv' hC' hx' F' N' off' ne'; (first | lcg_open hv' | (obtain ⟨t9', hv9'⟩ := hv'; subst hv9')); (obtain ⟨ne1', ne2', ne3'⟩ := ne')) | refine LCg.CompRest.zero ?_)
  k_with "execs cons" => ((with_reducible refine gen_toks (fun tk => ?_)); (with_reducible refine wpAny_execs_cons ?_); (try dsimp only); (try k_fold))
  k_with "subscriptTail" => (k_here; (with_reducible show wpAny _ _ (subscriptTail _ _ (Value.ref _) (Value.int _ _)) _ _ _); k_dflt (first | (refine' nt_item ?N ?hm ?k2 ?k3 ?k4 ?_ ?k6; (case N => k_asm); (case hm => lcg_sub); (case k2 => decide); (case k3 => decide); (case k4 => exact rfl); (case k6 => with_unfolding_all rfl); k_whole) | (refine' nt_itemK ?X ?F ?hl ?k2 ?k3 ?k4 ?_ ?k6 ?k7; (case F => k_asm); (case X => k_asm); (case hl => k_is); (case k2 => decide); (case k3 => decide); (case k4 => exact rfl); (case k6 => with_unfolding_all rfl); (case k7 => intro _; with_unfolding_all rfl); k_whole) | (refine' nt_itemT ?N ?hm ?k2 ?k3 ?k4 ?_ ?k6 ?k7; (case N => k_asm); (case hm => lcg_sub); (case k2 => decide); (case k3 => decide); (case k4 => exact rfl); (case k6 => with_unfolding_all rfl); (case k7 => intro _; with_unfolding_all rfl); k_whole)))
  k_with "subscriptTail Name Constant ref int" => (k_here; (with_reducible show wpAny _ _ (subscriptTail _ _ (Value.ref _) (Value.int _ _)) _ _ _); k_dflt (first | (refine' nt_item ?N ?hm ?k2 ?k3 ?k4 ?_ ?k6; (case N => k_asm); (case hm => lcg_sub); (case k2 => decide); (case k3 => decide); (case k4 => exact rfl); (case k6 => with_unfolding_all rfl); k_whole) | (refine' nt_itemK ?X ?F ?hl ?k2 ?k3 ?k4 ?_ ?k6 ?k7; (case F => k_asm); (case X => k_asm); (case hl => k_is); (case k2 => decide); (case k3 => decide); (case k4 => exact rfl); (case k6 => with_unfolding_all rfl); (case k7 => intro _; with_unfolding_all rfl); k_whole) | (refine' nt_itemT ?N ?hm ?k2 ?k3 ?k4 ?_ ?k6 ?k7; (case N => k_asm); (case hm => lcg_sub); (case k2 => decide); (case k3 => decide); (case k4 => exact rfl); (case k6 => with_unfolding_all rfl); (case k7 => intro _; with_unfolding_all rfl); k_whole)))
  k_with "subscriptTail Name Name ref int" => (k_here; (with_reducible show wpAny _ _ (subscriptTail _ _ (Value.ref _) (Value.int _ _)) _ _ _); k_dflt (first | (refine' nt_item ?N ?hm ?k2 ?k3 ?k4 ?_ ?k6; (case N => k_asm); (case hm => lcg_sub); (case k2 => decide); (case k3 => decide); (case k4 => exact rfl); (case k6 => with_unfolding_all rfl); k_whole) | (refine' nt_itemK ?X ?F ?hl ?k2 ?k3 ?k4 ?_ ?k6 ?k7; (case F => k_asm); (case X => k_asm); (case hl => k_is); (case k2 => decide); (case k3 => decide); (case k4 => exact rfl); (case k6 => with_unfolding_all rfl); (case k7 => intro _; with_unfolding_all rfl); k_whole) | (refine' nt_itemT ?N ?hm ?k2 ?k3 ?k4 ?_ ?k6 ?k7; (case N => k_asm); (case hm => lcg_sub); (case k2 => decide); (case k3 => decide); (case k4 => exact rfl); (case k6 => with_unfolding_all rfl); (case k7 => intro _; with_unfolding_all rfl); k_whole)))
  k_with "subscriptTail Attribute Name Constant ref int" => (k_here; (with_reducible show wpAny _ _ (subscriptTail _ _ (Value.ref _) (Value.int _ _)) _ _ _); k_dflt (first | (refine' nt_item ?N ?hm ?k2 ?k3 ?k4 ?_ ?k6; (case N => k_asm); (case hm => lcg_sub); (case k2 => decide); (case k3 => decide); (case k4 => exact rfl); (case k6 => with_unfolding_all rfl); k_whole) | (refine' nt_itemK ?X ?F ?hl ?k2 ?k3 ?k4 ?_ ?k6 ?k7; (case F => k_asm); (case X => k_asm); (case hl => k_is); (case k2 => decide); (case k3 => decide); (case k4 => exact rfl); (case k6 => with_unfolding_all rfl); (case k7 => intro _; with_unfolding_all rfl); k_whole) | (refine' nt_itemT ?N ?hm ?k2 ?k3 ?k4 ?_ ?k6 ?k7; (case N => k_asm); (case hm => lcg_sub); (case k2 => decide); (case k3 => decide); (case k4 => exact rfl); (case k6 => with_unfolding_all rfl); (case k7 => intro _; with_unfolding_all rfl); k_whole)))
  k_with "subscriptTail Attribute Name Name ref int" => (k_here; (with_reducible show wpAny _ _ (subscriptTail _ _ (Value.ref _) (Value.int _ _)) _ _ _); k_dflt (first | (refine' nt_item ?N ?hm ?k2 ?k3 ?k4 ?_ ?k6; (case N => k_asm); (case hm => lcg_sub); (case k2 => decide); (case k3 => decide); (case k4 => exact rfl); (case k6 => with_unfolding_all rfl); k_whole) | (refine' nt_itemK ?X ?F ?hl ?k2 ?k3 ?k4 ?_ ?k6 ?k7; (case F => k_asm); (case X => k_asm); (case hl => k_is); (case k2 => decide); (case k3 => decide); (case k4 => exact rfl); (case k6 => with_unfolding_all rfl); (case k7 => intro _; with_unfolding_all rfl); k_whole) | (refine' nt_itemT ?N ?hm ?k2 ?k3 ?k4 ?_ ?k6 ?k7; (case N => k_asm); (case hm => lcg_sub); (case k2 => decide); (case k3 => decide); (case k4 => exact rfl); (case k6 => with_unfolding_all rfl); (case k7 => intro _; with_unfolding_all rfl); k_whole)))
  k_with "subscriptTail Subscript Name ref int" => (k_here; (with_reducible show wpAny _ _ (subscriptTail _ _ (Value.ref _) (Value.int _ _)) _ _ _); k_dflt (first | (refine' nt_item ?N ?hm ?k2 ?k3 ?k4 ?_ ?k6; (case N => k_asm); (case hm => lcg_sub); (case k2 => decide); (case k3 => decide); (case k4 => exact rfl); (case k6 => with_unfolding_all rfl); k_whole) | (refine' nt_itemK ?X ?F ?hl ?k2 ?k3 ?k4 ?_ ?k6 ?k7; (case F => k_asm); (case X => k_asm); (case hl => k_is); (case k2 => decide); (case k3 => decide); (case k4 => exact rfl); (case k6 => with_unfolding_all rfl); (case k7 => intro _; with_unfolding_all rfl); k_whole) | (refine' nt_itemT ?N ?hm ?k2 ?k3 ?k4 ?_ ?k6 ?k7; (case N => k_asm); (case hm => lcg_sub); (case k2 => decide); (case k3 => decide); (case k4 => exact rfl); (case k6 => with_unfolding_all rfl); (case k7 => intro _; with_unfolding_all rfl); k_whole)))
  k_with "subscriptTail Subscript Constant ref int" => (k_here; (with_reducible show wpAny _ _ (subscriptTail _ _ (Value.ref _) (Value.int _ _)) _ _ _); k_dflt (first | (refine' nt_item ?N ?hm ?k2 ?k3 ?k4 ?_ ?k6; (case N => k_asm); (case hm => lcg_sub); (case k2 => decide); (case k3 => decide); (case k4 => exact rfl); (case k6 => with_unfolding_all rfl); k_whole) | (refine' nt_itemK ?X ?F ?hl ?k2 ?k3 ?k4 ?_ ?k6 ?k7; (case F => k_asm); (case X => k_asm); (case hl => k_is); (case k2 => decide); (case k3 => decide); (case k4 => exact rfl); (case k6 => with_unfolding_all rfl); (case k7 => intro _; with_unfolding_all rfl); k_whole) | (refine' nt_itemT ?N ?hm ?k2 ?k3 ?k4 ?_ ?k6 ?k7; (case N => k_asm); (case hm => lcg_sub); (case k2 => decide); (case k3 => decide); (case k4 => exact rfl); (case k6 => with_unfolding_all rfl); (case k7 => intro _; with_unfolding_all rfl); k_whole)))
  k_with "setItem ref int" => (k_here; k_dflt (refine' ki_set ?F ?N ?k2 ?k3 ?k4 ?U ?_; (case F => k_asm); (case N => k_asm); (case U => k_upd); (case k2 => decide); (case k3 => decide); (case k4 => exact rfl); k_whole); intro h' F' N'; (try k_sweep))
  k_with "eval Name" => (k_here; (with_reducible show wpAny _ _ (eval (Expr.Name _ _) (envOf _ _ _ _ _)) _ _ _); (with_reducible rename Fr _ _ _ _ => kF); k_dflt (first | (name_kind "local"; (refine' ld kF ?k2 ?_ ?a ?b ?c; (case k2 => exact rfl); (case a => kernel_rfl!); (case b => kernel_rfl!); (case c => decide +kernel)); k_whole) | (name_kind "globalImplicit"; (refine' name_K kF ?k1 ?k2 ?k3 ?_ ?a ?b ?c; (case k1 => k_asm); (case k2 => k_asm); (case k3 => k_is); (case a => kernel_rfl!); (case b => kernel_rfl!); (case c => decide +kernel); k_whole)) | (refine' name_B kF ?k1 ?k2 ?k3 ?k4 ?k5 ?_; (case k1 => k_asm); (case k2 => k_asm); (case k3 => k_is); (case k4 => boot_by_name); (case k5 => decide); k_whole)))
  k_with "compareOp NotEq ref ref" => (k_here; k_dflt (first | (with_reducible refine' ne_t3 ?N ?ha ?hb ?e1 ?e2 ?e3 ?hu ?_; (case N => k_asm); (case ha => lcg_sub); (case hb => lcg_sub); (case e1 => first | assumption | exact (Grey.h (by assumption) (by assumption) (by assumption)).1 | exact (Grey2.h (by assumption) (by assumption) (by assumption)).1 | rfl); (case e2 => first | assumption | exact (Grey.h (by assumption) (by assumption) (by assumption)).2.1 | exact (Grey2.h (by assumption) (by assumption) (by assumption)).2.1 | rfl); (case e3 => first | assumption | exact (Grey.h (by assumption) (by assumption) (by assumption)).2.2 | exact (Grey2.h (by assumption) (by assumption) (by assumption)).2.2 | rfl); (case hu => units_room)) | (with_reducible refine' ne_l3 ?N ?ha ?hb ?e1 ?e2 ?e3 ?hu ?_; (case N => k_asm); (case ha => lcg_sub); (case hb => lcg_sub); (case e1 => first | assumption | exact (Grey.h (by assumption) (by assumption) (by assumption)).1 | exact (Grey2.h (by assumption) (by assumption) (by assumption)).1 | rfl); (case e2 => first | assumption | exact (Grey.h (by assumption) (by assumption) (by assumption)).2.1 | exact (Grey2.h (by assumption) (by assumption) (by assumption)).2.1 | rfl); (case e3 => first | assumption | exact (Grey.h (by assumption) (by assumption) (by assumption)).2.2 | exact (Grey2.h (by assumption) (by assumption) (by assumption)).2.2 | rfl); (case hu => units_room)) | (with_reducible refine' ne_l0 ?N ?ha ?hb ?hu ?_; (case N => k_asm); (case ha => lcg_sub); (case hb => lcg_sub); (case hu => units_room))))
  k_with "compareOp Eq ref ref" => (k_here; k_dflt ((with_reducible refine' eq_l0 ?N ?ha ?hb ?hu ?_; (case N => k_asm); (case ha => lcg_sub); (case hb => lcg_sub); (case hu => units_room))))
  k_with "eval Call" => ((with_reducible show wpAny _ _ (eval (Expr.Call (Expr.Name _ _) _ [] _) (envOf _ _ _ _ _)) _ _ _); k_dflt (refine Call_ ?_))
  k_with "call builtin:list.append" => (k_here; (with_reducible show wpAny _ _ (call (Value.builtin _) [Value.ref _, _]) _ _ _); k_dflt (refine' nt_append ?F ?N ?P ?off ?hsz ?_; (case F => k_asm); (case N => k_asm); (case P => repeat' (first | exact Pick.head | refine' Pick.tail ?_)); (case off => k_all); (case hsz => first | exact Nat.le_of_ble_eq_true rfl | size_fits)); intro h' F' N'; (try simp only [List.cons_append, List.nil_append] at N'); (try k_sweep))
  k_with "exec For Name Call cons nil" => (k_here; (with_reducible rename Fr _ _ _ _ => lF'); (with_unfolding_all refine' For_turns lF' ?_; k_whole))
  k_with "pyIter ref" => (k_here; (with_reducible show wpAny _ _ (pyIter (Value.ref _)) (fun it s₂ => TurnsAt _ _ _ _ _ _ _ _ _ it s₂) _ _); k_dflt (refine' rangeTurns ?hh ?hr ?hs ?hn ?F ?N ?_; (case hh => rfl); (case hr => assumption); (case hs => first | decide | rfl); (case hn => first | rfl | decide); (case F => k_asm); (case N => k_asm)); intro i' l1'; (try k_lt l1'))
  k_with "UnrEndW" => (refine' unrEnd ?F ?N ?P ?off ⟨trivial, ?_⟩; (case F => assumption); (case N => assumption); (case P => repeat' (first | exact Pick.head | refine' Pick.tail ?_)); (case off => k_all))
  k_with "eval ListComp" => (k_here; (with_reducible show wpAny _ _ (eval (PySem.Expr.ListComp _ [⟨PySem.Expr.Name _ _, _, [], _⟩] _ _) _) _ _ _); (try k_fold); k_dflt (refine ListComp_X (F₀ := by k_asm) (by with_unfolding_all rfl) (by intro _; rfl) (by intro _; rfl) (by rfl) (by decide) (by rfl) ?_))
  k_with "SrcX" => (k_here; k_dflt (refine SrcX.intro (by rfl) (by k_asm) (by k_asm) (by assumption) (by first | decide | rfl) (by first | rfl | decide) (by first | exact Nat.le_of_ble_eq_true rfl | size_fits) ?_; intro g'))
  k_with "RestX" => (with_unfolding_all first | (refine RestX.succ ?_; intro t' I' oI' C' oC' X' oX' D' h' tk' E' hX' F' N' off' ne'; (obtain ⟨ne1', ne2', ne3', ne4', ne5', ne6'⟩ := ne')) | refine RestX.zero ?_)
  k_with "EndX" => (refine' EndX.intro ?F ?N ?P1 ?P2 ?P3 ?P4 ?off ?_; (case F => assumption); (case N => assumption); (case P1 => repeat' (first | exact Pick.head | refine' Pick.tail ?_)); (case P2 => repeat' (first | exact Pick.head | refine' Pick.tail ?_)); (case P3 => repeat' (first | exact Pick.head | refine' Pick.tail ?_)); (case P4 => repeat' (first | exact Pick.head | refine' Pick.tail ?_)); (case off => repeat' (first | exact True.intro | assumption | (refine And.intro (by first | assumption | exact ⟨by k_ne, by k_ne, by k_ne, by k_ne⟩) ?_))))
  k_with "call ref" => (k_here; (with_reducible show wpAny _ _ (call (Value.ref 239) _) _ _ _); k_dflt (refine' Con.use (c_is_ycc_rgb _ _ _ _) ?B ?F ?X ?N ?T ?hk ?hd ?hu ?_; (case F => k_asm); (case N => k_asm); (case T => k_asm); (case X => k_asm); (case B => k_asm); (case hk => first | exact rfl | assumption); (case hd => ktr_room); (case hu => ktr_units); k_whole); intro h' tk' F' N'; (try k_sweep))
  k_with "call ref" => (k_here; (with_reducible show wpAny _ _ (call (Value.ref 244) _) _ _ _); k_dflt (refine' Con.use (c_tplanesK _ _ _ _ _ _ _ _ _ _ _ _ _ _ _ _ _ 3 3 _ _ _ ?hl (g_rgb ?hp ?hm1 ?hm2) ?hm1 ?hm2 ?hm3 (by decide) (by decide) ?hP ?ok) ?B ?F ?X ?N ?T ?hk ?hd ?hu ?_; (case F => k_asm); (case N => k_asm); (case hl => assumption); (case hp => assumption); (case hm1 => lcg_sub); (case hm2 => lcg_sub); (case hm3 => lcg_sub); (case hP => (refine' Planes.sub ?s9 ?h9; (case h9 => with_reducible assumption); (case s9 => (repeat' (first | with_reducible assumption | exact Sub.refl | refine Sub.cons ?_ | refine Sub.app ?_))))); (case ok => assumption); (case T => k_asm); (case X => k_asm); (case B => k_asm); (case hk => first | exact rfl | assumption); (case hd => ktr_room); (case hu => ktr_units); k_whole); intro D' qs' o' c' T' h' tk' r' lq' p' s' F' N'; (try k_sweep))
  k_with "call ref" => (k_here; (with_reducible show wpAny _ _ (call (Value.ref 84) _) _ _ _); k_dflt (refine' Con.use (c_plane _ _ _ _ _ _ _) ?B ?F ?X ?N ?T ?hk ?hd ?hu ?_; (case F => k_asm); (case N => k_asm); (case T => k_asm); (case X => k_asm); (case B => k_asm); (case hk => first | exact rfl | assumption); (case hd => ktr_room); (case hu => ktr_units); k_whole); intro x' d' k1' k2' k3' h' tk' F' N' l1' l2' l3'; skip; (try k_sweep))
  k_with "call ref" => (k_here; (with_reducible show wpAny _ _ (call (Value.ref 122) _) _ _ _); k_dflt (refine' Con.use (c_pic _ _ _ _ _ _ _) ?B ?F ?X ?N ?T ?hk ?hd ?hu ?_; (case F => k_asm); (case N => k_asm); (case T => k_asm); (case X => k_asm); (case B => k_asm); (case hk => first | exact rfl | assumption); (case hd => ktr_room); (case hu => ktr_units); k_whole); intro x' d' k1' k2' k3' h' tk' F' N' l1' l2' l3'; skip; (try k_sweep))
  k_with "call ref" => (k_here; (with_reducible show wpAny _ _ (call (Value.ref 228) _) _ _ _); k_dflt (refine' Con.use (c_turning _ _ _ _ _ _ _ _) ?B ?F ?X ?N ?T ?hk ?hd ?hu ?_; (case F => k_asm); (case N => k_asm); (case T => k_asm); (case X => k_asm); (case B => k_asm); (case hk => first | exact rfl | assumption); (case hd => ktr_room); (case hu => ktr_units); k_whole); intro x' d' k1' k2' k3' h' tk' F' N' l1' l2' l3'; skip; (try k_sweep))
  unfold Con
  k_fill
  intro mean mg mb dp un gd cn cs aa ccd cl outer A₀ base h₀ L m s Q E B F X9 N T9 hk hd hu hret
  obtain ⟨dX, taX, tpX, k1X, k2X, k3X, mX1, mX2⟩ := hX
  obtain ⟨hp₀, gn₀, dr₀, tk₀, os₀⟩ := s
  refine wpAny_call ?_
  k_dflt k_enter
  k_steps
  all_goals (rename Fr h₀ L _ _ => hF; rename News h₀ L _ _ => hN)
  refine' hret _ _ _ _ _ _ _ _ ?r ?pc ?ql ?len ?pq ?s0 ?F ?N
  case F => exact hF
  case N => exact hN
  case pc => exact ⟨_, _, _, _, _, _, by lcg_sub, by lcg_sub⟩
  case ql => lcg_sub
  case r => assumption
  case len => assumption
  case pq =>
    refine' Planes.sub ?s9 ?h9
    case h9 => with_reducible assumption
    case s9 => repeat (with_reducible first | assumption | exact Sub.refl | refine Sub.cons ?_)
  case s0 =>
    repeat (with_reducible first | assumption | exact Sub.refl | refine Sub.cons ?_)
    refine' Sub.trans ?u9 ?v9
    case v9 => with_reducible assumption
    case u9 => repeat (with_reducible first | exact Sub.refl | refine Sub.cons ?_)
end
-- NtPg_C
section
open PySem PySem.W PySem.Spec PySem.Calls PyProof.Rows PySem.SeqAt
theorem c_tpg_cmyk_ycck (w : World) (news : Led) (X pl : Addr) (p : Int) (c : Nat) (t : Tok) (v₀ : Value) (ps : List Value) (d : Nat → Nat → Int) (hX : PicIn w news X (Str.ofString "cmyk") p pl) (hpl : (pl, listOf (v₀ :: ps).toArray c) ∈ news) (hl : (v₀ :: ps).length = 4) (hP : Planes w news d (v₀ :: ps)) (hp : 2 ≤ p ∧ p ≤ 8) (ok : ∀ q, Ok3G p fun i => d i q) :
   Con w 254 [.ref X, .str (Str.ofString "ycck") t] news 40 (fun h₀ L m Q => ∀ (Y ql : Addr) (qs : List Value) (o : Nat → Nat → Int) (c : Nat) (T : Led) (h' : Heap) (tk' : Nat), (∀ q, q < 4 → RycckG p (fun i => d i q) fun j => o j q) →
     PicIn w T Y (Str.ofString "ycck") p ql → (ql, listOf qs.toArray c) ∈ T → qs.length = 4 → Planes w T o qs → Sub news T → Fr h₀ L h' m → News h₀ L h' T → Q (.ref Y) h' tk') := by
  w_top off
  k_with_none
  k_with "k_room" => skip
  k_with "units_room" => skip
  k_with "k_all" => ((repeat ((refine' List.forall_mem_cons.mpr ⟨?ha, ?_⟩); (case ha => k_ne))); (first | exact List.forall_mem_nil _ | assumption | exact off1_all (by assumption) | exact allLt_ne (by assumption) (by (try dsimp only); omega) | ((with_reducible rename _ ∧ AllLt _ _ => hx9); exact allLt_ne hx9.2 (by (try dsimp only); omega)) | ((with_reducible rename _ ∧ _ ∧ AllLt _ _ => hx9); exact allLt_ne hx9.2.2 (by (try dsimp only); omega)) | ((with_reducible rename _ ∧ _ ∧ _ ∧ AllLt _ _ => hx9); exact allLt_ne hx9.2.2.2 (by (try dsimp only); omega))))
  k_with "lcg_sub" => first | with_reducible assumption | ((with_reducible (repeat' (first | exact List.mem_cons_self | assumption | refine List.mem_cons_of_mem _ ?_ | refine List.mem_append_right _ ?_))); done)
  k_with "k_mem" => first | with_reducible assumption | ((with_reducible (repeat' (first | exact List.mem_cons_self | assumption | refine List.mem_cons_of_mem _ ?_ | refine List.mem_append_right _ ?_))); done)
  k_with "lcg_off" => first | exact True.intro | assumption | (refine And.intro (by first | assumption | exact ⟨by k_ne, by k_ne, by k_ne⟩) ?_; lcg_off)
  k_with "k_lt" => skip
  k_with "k_ne" => (refine neN ?_; (try dsimp only); first | with_reducible assumption | exact Ne.symm (by with_reducible assumption) | exact o_gt (by with_reducible assumption) (by lcg_sub) | exact o_1' (by with_reducible assumption) (by lcg_sub) | exact o_lt (by with_reducible assumption) (by lcg_sub) | exact o_1 (by with_reducible assumption) (by lcg_sub) | exact o_3I (by with_reducible assumption) (by lcg_sub) | exact Ne.symm (o_3I (by with_reducible assumption) (by lcg_sub)) | exact o_3C (by with_reducible assumption) (by lcg_sub) | exact Ne.symm (o_3C (by with_reducible assumption) (by lcg_sub)) | exact o_3D (by with_reducible assumption) (by lcg_sub) | exact Ne.symm (o_3D (by with_reducible assumption) (by lcg_sub)) | exact o_4I (by with_reducible assumption) (by lcg_sub) | exact Ne.symm (o_4I (by with_reducible assumption) (by lcg_sub)) | exact o_4C (by with_reducible assumption) (by lcg_sub) | exact Ne.symm (o_4C (by with_reducible assumption) (by lcg_sub)) | exact o_4X (by with_reducible assumption) (by lcg_sub) | exact Ne.symm (o_4X (by with_reducible assumption) (by lcg_sub)) | exact o_4D (by with_reducible assumption) (by lcg_sub) | exact Ne.symm (o_4D (by with_reducible assumption) (by lcg_sub)) | ((repeat (first | exact cn1 | exact cn2 | exact cn3 | exact cn4 | exact cn5 | exact cn6 | exact cn7 | exact Ne.symm cn1 | exact Ne.symm cn2 | exact Ne.symm cn3 | exact Ne.symm cn4 | exact Ne.symm cn5 | exact Ne.symm cn6 | exact Ne.symm cn7 | refine cnS ?_)); done))
  k_with "k_all" => ((repeat ((refine' List.forall_mem_cons.mpr ⟨?ha, ?_⟩); (case ha => k_ne))); (first | exact List.forall_mem_nil _ | with_reducible assumption | exact all_lt (by with_reducible assumption) (by (repeat' (first | with_reducible assumption | exact Sub.refl | refine Sub.cons ?_ | refine Sub.app ?_))) | exact all_1 (by with_reducible assumption) (by (repeat' (first | with_reducible assumption | exact Sub.refl | refine Sub.cons ?_ | refine Sub.app ?_))) | exact all_3I (by with_reducible assumption) (by (repeat' (first | with_reducible assumption | exact Sub.refl | refine Sub.cons ?_ | refine Sub.app ?_))) | exact all_3C (by with_reducible assumption) (by (repeat' (first | with_reducible assumption | exact Sub.refl | refine Sub.cons ?_ | refine Sub.app ?_))) | exact all_3D (by with_reducible assumption) (by (repeat' (first | with_reducible assumption | exact Sub.refl | refine Sub.cons ?_ | refine Sub.app ?_))) | exact all_4I (by with_reducible assumption) (by (repeat' (first | with_reducible assumption | exact Sub.refl | refine Sub.cons ?_ | refine Sub.app ?_))) | exact all_4C (by with_reducible assumption) (by (repeat' (first | with_reducible assumption | exact Sub.refl | refine Sub.cons ?_ | refine Sub.app ?_))) | exact all_4X (by with_reducible assumption) (by (repeat' (first | with_reducible assumption | exact Sub.refl | refine Sub.cons ?_ | refine Sub.app ?_))) | exact all_4D (by with_reducible assumption) (by (repeat' (first | with_reducible assumption | exact Sub.refl | refine Sub.cons ?_ | refine Sub.app ?_))) | exact allLt_ne (by with_reducible assumption) (by repeat (first | exact Nat.le_refl _ | refine Nat.le_succ_of_le ?_))))
  k_with "k_enter" => skip
  k_with "FinE" => ((unfold LCg.FinE); intro D' h' tk' F' N' o1'; (try simp only [List.nil_append, List.cons_append] at N'); (try dsimp only))
  k_with "FinA" => ((unfold LCg.FinA); intro D' h' tk' F' N' o1'; (try simp only [List.nil_append, List.cons_append] at N'); (try dsimp only))
  k_with "CompEnd" => (refine' nt_compEnd ?F ?N ?P1 ?P2 ?P3 ?off ?S ?_; (case F => assumption); (case N => assumption); (case P1 => repeat' (first | exact Pick.head | refine' Pick.tail ?_)); (case P2 => repeat' (first | exact Pick.head | refine' Pick.tail ?_)); (case P3 => repeat' (first | exact Pick.head | refine' Pick.tail ?_)); (case off => lcg_off); (case S => first | lcg_src | assumption))
  k_with "eval ListComp" => (k_here; (with_reducible show wpAny _ _ (eval (PySem.Expr.ListComp _ [⟨PySem.Expr.Name _ _, _, [], _⟩] _ _) _) _ _ _); (try k_fold); k_dflt (refine LCg.ListComp_U (F₀ := by k_asm) (by with_unfolding_all rfl) (by decide) (by rfl) (by decide) (by rfl) ?_))
  k_with "exec Assign cons ListComp" => (k_here; k_dflt (refine LCg.Assign_ListComp_U (F₀ := by k_asm) (by rfl) (by with_unfolding_all rfl) (by with_unfolding_all rfl) (by decide) (by rfl) (by decide) (by rfl) (by rfl) (by rfl) ?_))
  k_with "eval ListComp" => (k_here; (with_reducible show wpAny _ _ (eval (PySem.Expr.ListComp _ [⟨PySem.Expr.Name _ _, _, [_], _⟩] _ _) _) _ _ _); (try k_fold); k_dflt (refine LCt.ListComp_T (F₀ := by k_asm) (by with_unfolding_all rfl) (by decide) (by rfl) (by decide) (by rfl) ?_))
  k_with "CompSrcT" => (k_here; k_dflt (first | (refine LCt.CompSrcT.ledger (by rfl) (by k_asm) (by k_asm) (by lcg_sub) (by first | exact Nat.le_of_ble_eq_true rfl | size_fits) ?_; intro g'; lct_lit) | (refine LCt.CompSrcT.range (by rfl) (by k_asm) (by k_asm) (by assumption) (by first | decide | rfl) (by first | rfl | decide) (by first | exact Nat.le_of_ble_eq_true rfl | size_fits) ?_; intro g'; lct_lit)))
  k_with "CompRestT" => (with_unfolding_all first | (refine LCt.CompRestT.succ ?_; intro v' I' oI' C' oC' D' m' h' tk' E' hv' hC' hx' F' N' off' ne'; (first | lcg_open hv' | (obtain ⟨t9', hv9'⟩ := hv'; subst hv9')); (obtain ⟨ne1', ne2', ne3'⟩ := ne')) | refine LCt.CompRestT.zero ?_)
  k_with "CompSrc" => (k_here; k_dflt (first | (refine LCg.CompSrc.ledger (by rfl) (by k_asm) (by k_asm) (by lcg_sub) (by first | exact Nat.le_of_ble_eq_true rfl | size_fits) ?_; intro g'; lcg_lit) | (refine LCg.CompSrc.range (by rfl) (by k_asm) (by k_asm) (by assumption) (by first | decide | rfl) (by first | rfl | decide) (by first | exact Nat.le_of_ble_eq_true rfl | size_fits) ?_; intro g'; lcg_lit)))
  k_with "CompRest" => (with_unfolding_all first | (refine LCg.CompRest.succ ?_; intro v' I' oI' C' oC' D' m' h' tk' E' hv' hC' hx' F' N' off' ne'; (first | lcg_open hv' | (obtain ⟨t9', hv9'⟩ := hv'; subst hv9')); (obtain ⟨ne1', ne2', ne3'⟩ := ne')) | refine LCg.CompRest.zero ?_)
  k_with "execs cons" => ((with_reducible refine gen_toks (fun tk => ?_)); (with_reducible refine wpAny_execs_cons ?_); (try dsimp only); (try k_fold))
  k_with "subscriptTail" => (k_here; (with_reducible show wpAny _ _ (subscriptTail _ _ (Value.ref _) (Value.int _ _)) _ _ _); k_dflt (first | (refine' nt_item ?N ?hm ?k2 ?k3 ?k4 ?_ ?k6; (case N => k_asm); (case hm => lcg_sub); (case k2 => decide); (case k3 => decide); (case k4 => exact rfl); (case k6 => with_unfolding_all rfl); k_whole) | (refine' nt_itemK ?X ?F ?hl ?k2 ?k3 ?k4 ?_ ?k6 ?k7; (case F => k_asm); (case X => k_asm); (case hl => k_is); (case k2 => decide); (case k3 => decide); (case k4 => exact rfl); (case k6 => with_unfolding_all rfl); (case k7 => intro _; with_unfolding_all rfl); k_whole) | (refine' nt_itemT ?N ?hm ?k2 ?k3 ?k4 ?_ ?k6 ?k7; (case N => k_asm); (case hm => lcg_sub); (case k2 => decide); (case k3 => decide); (case k4 => exact rfl); (case k6 => with_unfolding_all rfl); (case k7 => intro _; with_unfolding_all rfl); k_whole)))
  k_with "subscriptTail Name Constant ref int" => (k_here; (with_reducible show wpAny _ _ (subscriptTail _ _ (Value.ref _) (Value.int _ _)) _ _ _); k_dflt (first | (refine' nt_item ?N ?hm ?k2 ?k3 ?k4 ?_ ?k6; (case N => k_asm); (case hm => lcg_sub); (case k2 => decide); (case k3 => decide); (case k4 => exact rfl); (case k6 => with_unfolding_all rfl); k_whole) | (refine' nt_itemK ?X ?F ?hl ?k2 ?k3 ?k4 ?_ ?k6 ?k7; (case F => k_asm); (case X => k_asm); (case hl => k_is); (case k2 => decide); (case k3 => decide); (case k4 => exact rfl); (case k6 => with_unfolding_all rfl); (case k7 => intro _; with_unfolding_all rfl); k_whole) | (refine' nt_itemT ?N ?hm ?k2 ?k3 ?k4 ?_ ?k6 ?k7; (case N => k_asm); (case hm => lcg_sub); (case k2 => decide); (case k3 => decide); (case k4 => exact rfl); (case k6 => with_unfolding_all rfl); (case k7 => intro _; with_unfolding_all rfl); k_whole)))
  k_with "subscriptTail Name Name ref int" => (k_here; (with_reducible show wpAny _ _ (subscriptTail _ _ (Value.ref _) (Value.int _ _)) _ _ _); k_dflt (first | (refine' nt_item ?N ?hm ?k2 ?k3 ?k4 ?_ ?k6; (case N => k_asm); (case hm => lcg_sub); (case k2 => decide); (case k3 => decide); (case k4 => exact rfl); (case k6 => with_unfolding_all rfl); k_whole) | (refine' nt_itemK ?X ?F ?hl ?k2 ?k3 ?k4 ?_ ?k6 ?k7; (case F => k_asm); (case X => k_asm); (case hl => k_is); (case k2 => decide); (case k3 => decide); (case k4 => exact rfl); (case k6 => with_unfolding_all rfl); (case k7 => intro _; with_unfolding_all rfl); k_whole) | (refine' nt_itemT ?N ?hm ?k2 ?k3 ?k4 ?_ ?k6 ?k7; (case N => k_asm); (case hm => lcg_sub); (case k2 => decide); (case k3 => decide); (case k4 => exact rfl); (case k6 => with_unfolding_all rfl); (case k7 => intro _; with_unfolding_all rfl); k_whole)))
  k_with "subscriptTail Attribute Name Constant ref int" => (k_here; (with_reducible show wpAny _ _ (subscriptTail _ _ (Value.ref _) (Value.int _ _)) _ _ _); k_dflt (first | (refine' nt_item ?N ?hm ?k2 ?k3 ?k4 ?_ ?k6; (case N => k_asm); (case hm => lcg_sub); (case k2 => decide); (case k3 => decide); (case k4 => exact rfl); (case k6 => with_unfolding_all rfl); k_whole) | (refine' nt_itemK ?X ?F ?hl ?k2 ?k3 ?k4 ?_ ?k6 ?k7; (case F => k_asm); (case X => k_asm); (case hl => k_is); (case k2 => decide); (case k3 => decide); (case k4 => exact rfl); (case k6 => with_unfolding_all rfl); (case k7 => intro _; with_unfolding_all rfl); k_whole) | (refine' nt_itemT ?N ?hm ?k2 ?k3 ?k4 ?_ ?k6 ?k7; (case N => k_asm); (case hm => lcg_sub); (case k2 => decide); (case k3 => decide); (case k4 => exact rfl); (case k6 => with_unfolding_all rfl); (case k7 => intro _; with_unfolding_all rfl); k_whole)))
  k_with "subscriptTail Attribute Name Name ref int" => (k_here; (with_reducible show wpAny _ _ (subscriptTail _ _ (Value.ref _) (Value.int _ _)) _ _ _); k_dflt (first | (refine' nt_item ?N ?hm ?k2 ?k3 ?k4 ?_ ?k6; (case N => k_asm); (case hm => lcg_sub); (case k2 => decide); (case k3 => decide); (case k4 => exact rfl); (case k6 => with_unfolding_all rfl); k_whole) | (refine' nt_itemK ?X ?F ?hl ?k2 ?k3 ?k4 ?_ ?k6 ?k7; (case F => k_asm); (case X => k_asm); (case hl => k_is); (case k2 => decide); (case k3 => decide); (case k4 => exact rfl); (case k6 => with_unfolding_all rfl); (case k7 => intro _; with_unfolding_all rfl); k_whole) | (refine' nt_itemT ?N ?hm ?k2 ?k3 ?k4 ?_ ?k6 ?k7; (case N => k_asm); (case hm => lcg_sub); (case k2 => decide); (case k3 => decide); (case k4 => exact rfl); (case k6 => with_unfolding_all rfl); (case k7 => intro _; with_unfolding_all rfl); k_whole)))
  k_with "subscriptTail Subscript Name ref int" => (k_here; (with_reducible show wpAny _ _ (subscriptTail _ _ (Value.ref _) (Value.int _ _)) _ _ _); k_dflt (first | (refine' nt_item ?N ?hm ?k2 ?k3 ?k4 ?_ ?k6; (case N => k_asm); (case hm => lcg_sub); (case k2 => decide); (case k3 => decide); (case k4 => exact rfl); (case k6 => with_unfolding_all rfl); k_whole) | (refine' nt_itemK ?X ?F ?hl ?k2 ?k3 ?k4 ?_ ?k6 ?k7; (case F => k_asm); (case X => k_asm); (case hl => k_is); (case k2 => decide); (case k3 => decide); (case k4 => exact rfl); (case k6 => with_unfolding_all rfl); (case k7 => intro _; with_unfolding_all rfl); k_whole) | (refine' nt_itemT ?N ?hm ?k2 ?k3 ?k4 ?_ ?k6 ?k7; (case N => k_asm); (case hm => lcg_sub); (case k2 => decide); (case k3 => decide); (case k4 => exact rfl); (case k6 => with_unfolding_all rfl); (case k7 => intro _; with_unfolding_all rfl); k_whole)))
  k_with "subscriptTail Subscript Constant ref int" => (k_here; (with_reducible show wpAny _ _ (subscriptTail _ _ (Value.ref _) (Value.int _ _)) _ _ _); k_dflt (first | (refine' nt_item ?N ?hm ?k2 ?k3 ?k4 ?_ ?k6; (case N => k_asm); (case hm => lcg_sub); (case k2 => decide); (case k3 => decide); (case k4 => exact rfl); (case k6 => with_unfolding_all rfl); k_whole) | (refine' nt_itemK ?X ?F ?hl ?k2 ?k3 ?k4 ?_ ?k6 ?k7; (case F => k_asm); (case X => k_asm); (case hl => k_is); (case k2 => decide); (case k3 => decide); (case k4 => exact rfl); (case k6 => with_unfolding_all rfl); (case k7 => intro _; with_unfolding_all rfl); k_whole) | (refine' nt_itemT ?N ?hm ?k2 ?k3 ?k4 ?_ ?k6 ?k7; (case N => k_asm); (case hm => lcg_sub); (case k2 => decide); (case k3 => decide); (case k4 => exact rfl); (case k6 => with_unfolding_all rfl); (case k7 => intro _; with_unfolding_all rfl); k_whole)))
  k_with "setItem ref int" => (k_here; k_dflt (refine' ki_set ?F ?N ?k2 ?k3 ?k4 ?U ?_; (case F => k_asm); (case N => k_asm); (case U => k_upd); (case k2 => decide); (case k3 => decide); (case k4 => exact rfl); k_whole); intro h' F' N'; (try k_sweep))
  k_with "eval Name" => (k_here; (with_reducible show wpAny _ _ (eval (Expr.Name _ _) (envOf _ _ _ _ _)) _ _ _); (with_reducible rename Fr _ _ _ _ => kF); k_dflt (first | (name_kind "local"; (refine' ld kF ?k2 ?_ ?a ?b ?c; (case k2 => exact rfl); (case a => kernel_rfl!); (case b => kernel_rfl!); (case c => decide +kernel)); k_whole) | (name_kind "globalImplicit"; (refine' name_K kF ?k1 ?k2 ?k3 ?_ ?a ?b ?c; (case k1 => k_asm); (case k2 => k_asm); (case k3 => k_is); (case a => kernel_rfl!); (case b => kernel_rfl!); (case c => decide +kernel); k_whole)) | (refine' name_B kF ?k1 ?k2 ?k3 ?k4 ?k5 ?_; (case k1 => k_asm); (case k2 => k_asm); (case k3 => k_is); (case k4 => boot_by_name); (case k5 => decide); k_whole)))
  k_with "compareOp NotEq ref ref" => (k_here; k_dflt (first | (with_reducible refine' ne_t3 ?N ?ha ?hb ?e1 ?e2 ?e3 ?hu ?_; (case N => k_asm); (case ha => lcg_sub); (case hb => lcg_sub); (case e1 => first | assumption | exact (Grey.h (by assumption) (by assumption) (by assumption)).1 | exact (Grey2.h (by assumption) (by assumption) (by assumption)).1 | rfl); (case e2 => first | assumption | exact (Grey.h (by assumption) (by assumption) (by assumption)).2.1 | exact (Grey2.h (by assumption) (by assumption) (by assumption)).2.1 | rfl); (case e3 => first | assumption | exact (Grey.h (by assumption) (by assumption) (by assumption)).2.2 | exact (Grey2.h (by assumption) (by assumption) (by assumption)).2.2 | rfl); (case hu => units_room)) | (with_reducible refine' ne_l3 ?N ?ha ?hb ?e1 ?e2 ?e3 ?hu ?_; (case N => k_asm); (case ha => lcg_sub); (case hb => lcg_sub); (case e1 => first | assumption | exact (Grey.h (by assumption) (by assumption) (by assumption)).1 | exact (Grey2.h (by assumption) (by assumption) (by assumption)).1 | rfl); (case e2 => first | assumption | exact (Grey.h (by assumption) (by assumption) (by assumption)).2.1 | exact (Grey2.h (by assumption) (by assumption) (by assumption)).2.1 | rfl); (case e3 => first | assumption | exact (Grey.h (by assumption) (by assumption) (by assumption)).2.2 | exact (Grey2.h (by assumption) (by assumption) (by assumption)).2.2 | rfl); (case hu => units_room)) | (with_reducible refine' ne_l0 ?N ?ha ?hb ?hu ?_; (case N => k_asm); (case ha => lcg_sub); (case hb => lcg_sub); (case hu => units_room))))
  k_with "compareOp Eq ref ref" => (k_here; k_dflt ((with_reducible refine' eq_l0 ?N ?ha ?hb ?hu ?_; (case N => k_asm); (case ha => lcg_sub); (case hb => lcg_sub); (case hu => units_room))))
  k_with "eval Call" => ((with_reducible show wpAny _ _ (eval (Expr.Call (Expr.Name _ _) _ [] _) (envOf _ _ _ _ _)) _ _ _); k_dflt (refine Call_ ?_))
  k_with "call builtin:list.append" => (k_here; (with_reducible show wpAny _ _ (call (Value.builtin _) [Value.ref _, _]) _ _ _); k_dflt (refine' nt_append ?F ?N ?P ?off ?hsz ?_; (case F => k_asm); (case N => k_asm); (case P => repeat' (first | exact Pick.head | refine' Pick.tail ?_)); (case off => k_all); (case hsz => first | exact Nat.le_of_ble_eq_true rfl | size_fits)); intro h' F' N'; (try simp only [List.cons_append, List.nil_append] at N'); (try k_sweep))
  k_with "exec For Name Call cons nil" => (k_here; (with_reducible rename Fr _ _ _ _ => lF'); (with_unfolding_all refine' For_turns lF' ?_; k_whole))
  k_with "pyIter ref" => (k_here; (with_reducible show wpAny _ _ (pyIter (Value.ref _)) (fun it s₂ => TurnsAt _ _ _ _ _ _ _ _ _ it s₂) _ _); k_dflt (refine' rangeTurns ?hh ?hr ?hs ?hn ?F ?N ?_; (case hh => rfl); (case hr => assumption); (case hs => first | decide | rfl); (case hn => first | rfl | decide); (case F => k_asm); (case N => k_asm)); intro i' l1'; (try k_lt l1'))
  k_with "UnrEndW" => (refine' unrEnd ?F ?N ?P ?off ⟨trivial, ?_⟩; (case F => assumption); (case N => assumption); (case P => repeat' (first | exact Pick.head | refine' Pick.tail ?_)); (case off => k_all))
  k_with "eval ListComp" => (k_here; (with_reducible show wpAny _ _ (eval (PySem.Expr.ListComp _ [⟨PySem.Expr.Name _ _, _, [], _⟩] _ _) _) _ _ _); (try k_fold); k_dflt (refine ListComp_X (F₀ := by k_asm) (by with_unfolding_all rfl) (by intro _; rfl) (by intro _; rfl) (by rfl) (by decide) (by rfl) ?_))
  k_with "SrcX" => (k_here; k_dflt (refine SrcX.intro (by rfl) (by k_asm) (by k_asm) (by assumption) (by first | decide | rfl) (by first | rfl | decide) (by first | exact Nat.le_of_ble_eq_true rfl | size_fits) ?_; intro g'))
  k_with "RestX" => (with_unfolding_all first | (refine RestX.succ ?_; intro t' I' oI' C' oC' X' oX' D' h' tk' E' hX' F' N' off' ne'; (obtain ⟨ne1', ne2', ne3', ne4', ne5', ne6'⟩ := ne')) | refine RestX.zero ?_)
  k_with "EndX" => (refine' EndX.intro ?F ?N ?P1 ?P2 ?P3 ?P4 ?off ?_; (case F => assumption); (case N => assumption); (case P1 => repeat' (first | exact Pick.head | refine' Pick.tail ?_)); (case P2 => repeat' (first | exact Pick.head | refine' Pick.tail ?_)); (case P3 => repeat' (first | exact Pick.head | refine' Pick.tail ?_)); (case P4 => repeat' (first | exact Pick.head | refine' Pick.tail ?_)); (case off => repeat' (first | exact True.intro | assumption | (refine And.intro (by first | assumption | exact ⟨by k_ne, by k_ne, by k_ne, by k_ne⟩) ?_))))
  k_with "call ref" => (k_here; (with_reducible show wpAny _ _ (call (Value.ref 239) _) _ _ _); k_dflt (refine' Con.use (c_is_cmyk_ycck _ _ _ _) ?B ?F ?X ?N ?T ?hk ?hd ?hu ?_; (case F => k_asm); (case N => k_asm); (case T => k_asm); (case X => k_asm); (case B => k_asm); (case hk => first | exact rfl | assumption); (case hd => ktr_room); (case hu => ktr_units); k_whole); intro h' tk' F' N'; (try k_sweep))
  k_with "call ref" => (k_here; (with_reducible show wpAny _ _ (call (Value.ref 244) _) _ _ _); k_dflt (refine' Con.use (c_tplanesK _ _ _ _ _ _ _ _ _ _ _ _ _ _ _ _ _ 4 4 _ _ _ ?hl (g_ycck ?hp ?hm1 ?hm2) ?hm1 ?hm2 ?hm3 (by decide) (by decide) ?hP ?ok) ?B ?F ?X ?N ?T ?hk ?hd ?hu ?_; (case F => k_asm); (case N => k_asm); (case hl => assumption); (case hp => assumption); (case hm1 => lcg_sub); (case hm2 => lcg_sub); (case hm3 => lcg_sub); (case hP => (refine' Planes.sub ?s9 ?h9; (case h9 => with_reducible assumption); (case s9 => (repeat' (first | with_reducible assumption | exact Sub.refl | refine Sub.cons ?_ | refine Sub.app ?_))))); (case ok => assumption); (case T => k_asm); (case X => k_asm); (case B => k_asm); (case hk => first | exact rfl | assumption); (case hd => ktr_room); (case hu => ktr_units); k_whole); intro D' qs' o' c' T' h' tk' r' lq' p' s' F' N'; (try k_sweep))
  k_with "call ref" => (k_here; (with_reducible show wpAny _ _ (call (Value.ref 84) _) _ _ _); k_dflt (refine' Con.use (c_plane _ _ _ _ _ _ _) ?B ?F ?X ?N ?T ?hk ?hd ?hu ?_; (case F => k_asm); (case N => k_asm); (case T => k_asm); (case X => k_asm); (case B => k_asm); (case hk => first | exact rfl | assumption); (case hd => ktr_room); (case hu => ktr_units); k_whole); intro x' d' k1' k2' k3' h' tk' F' N' l1' l2' l3'; skip; (try k_sweep))
  k_with "call ref" => (k_here; (with_reducible show wpAny _ _ (call (Value.ref 122) _) _ _ _); k_dflt (refine' Con.use (c_pic _ _ _ _ _ _ _) ?B ?F ?X ?N ?T ?hk ?hd ?hu ?_; (case F => k_asm); (case N => k_asm); (case T => k_asm); (case X => k_asm); (case B => k_asm); (case hk => first | exact rfl | assumption); (case hd => ktr_room); (case hu => ktr_units); k_whole); intro x' d' k1' k2' k3' h' tk' F' N' l1' l2' l3'; skip; (try k_sweep))
  k_with "call ref" => (k_here; (with_reducible show wpAny _ _ (call (Value.ref 228) _) _ _ _); k_dflt (refine' Con.use (c_turning _ _ _ _ _ _ _ _) ?B ?F ?X ?N ?T ?hk ?hd ?hu ?_; (case F => k_asm); (case N => k_asm); (case T => k_asm); (case X => k_asm); (case B => k_asm); (case hk => first | exact rfl | assumption); (case hd => ktr_room); (case hu => ktr_units); k_whole); intro x' d' k1' k2' k3' h' tk' F' N' l1' l2' l3'; skip; (try k_sweep))
  unfold Con
  k_fill
  intro mean mg mb dp un gd cn cs aa ccd cl outer A₀ base h₀ L m s Q E B F X9 N T9 hk hd hu hret
  obtain ⟨dX, taX, tpX, k1X, k2X, k3X, mX1, mX2⟩ := hX
  obtain ⟨hp₀, gn₀, dr₀, tk₀, os₀⟩ := s
  refine wpAny_call ?_
  k_dflt k_enter
  k_steps
  all_goals (rename Fr h₀ L _ _ => hF; rename News h₀ L _ _ => hN)
  refine' hret _ _ _ _ _ _ _ _ ?r ?pc ?ql ?len ?pq ?s0 ?F ?N
  case F => exact hF
  case N => exact hN
  case pc => exact ⟨_, _, _, _, _, _, by lcg_sub, by lcg_sub⟩
  case ql => lcg_sub
  case r => assumption
  case len => assumption
  case pq =>
    refine' Planes.sub ?s9 ?h9
    case h9 => with_reducible assumption
    case s9 => repeat (with_reducible first | assumption | exact Sub.refl | refine Sub.cons ?_)
  case s0 =>
    repeat (with_reducible first | assumption | exact Sub.refl | refine Sub.cons ?_)
    refine' Sub.trans ?u9 ?v9
    case v9 => with_reducible assumption
    case u9 => repeat (with_reducible first | exact Sub.refl | refine Sub.cons ?_)
end
-- NtPg_D
section
open PySem PySem.W PySem.Spec PySem.Calls PyProof.Rows PySem.SeqAt
theorem c_tpg_ycck_cmyk (w : World) (news : Led) (X pl : Addr) (p : Int) (c : Nat) (t : Tok) (v₀ : Value) (ps : List Value) (d : Nat → Nat → Int) (hX : PicIn w news X (Str.ofString "ycck") p pl) (hpl : (pl, listOf (v₀ :: ps).toArray c) ∈ news) (hl : (v₀ :: ps).length = 4) (hP : Planes w news d (v₀ :: ps)) (hp : 2 ≤ p ∧ p ≤ 8) (ok : ∀ q, Ok3G p fun i => d i q) :
   Con w 254 [.ref X, .str (Str.ofString "cmyk") t] news 40 (fun h₀ L m Q => ∀ (Y ql : Addr) (qs : List Value) (o : Nat → Nat → Int) (c : Nat) (T : Led) (h' : Heap) (tk' : Nat), (∀ q, q < 4 → RcmykG p (fun i => d i q) fun j => o j q) →
     PicIn w T Y (Str.ofString "cmyk") p ql → (ql, listOf qs.toArray c) ∈ T → qs.length = 4 → Planes w T o qs → Sub news T → Fr h₀ L h' m → News h₀ L h' T → Q (.ref Y) h' tk') := by
  w_top off
  k_with_none
  k_with "k_room" => skip
  k_with "units_room" => skip
  k_with "k_all" => ((repeat ((refine' List.forall_mem_cons.mpr ⟨?ha, ?_⟩); (case ha => k_ne))); (first | exact List.forall_mem_nil _ | assumption | exact off1_all (by assumption) | exact allLt_ne (by assumption) (by (try dsimp only); omega) | ((with_reducible rename _ ∧ AllLt _ _ => hx9); exact allLt_ne hx9.2 (by (try dsimp only); omega)) | ((with_reducible rename _ ∧ _ ∧ AllLt _ _ => hx9); exact allLt_ne hx9.2.2 (by (try dsimp only); omega)) | ((with_reducible rename _ ∧ _ ∧ _ ∧ AllLt _ _ => hx9); exact allLt_ne hx9.2.2.2 (by (try dsimp only); omega))))
  k_with "lcg_sub" => first | with_reducible assumption | ((with_reducible (repeat' (first | exact List.mem_cons_self | assumption | refine List.mem_cons_of_mem _ ?_ | refine List.mem_append_right _ ?_))); done)
  k_with "k_mem" => first | with_reducible assumption | ((with_reducible (repeat' (first | exact List.mem_cons_self | assumption | refine List.mem_cons_of_mem _ ?_ | refine List.mem_append_right _ ?_))); done)
  k_with "lcg_off" => first | exact True.intro | assumption | (refine And.intro (by first | assumption | exact ⟨by k_ne, by k_ne, by k_ne⟩) ?_; lcg_off)
  k_with "k_lt" => skip
  k_with "k_ne" => (refine neN ?_; (try dsimp only); first | with_reducible assumption | exact Ne.symm (by with_reducible assumption) | exact o_gt (by with_reducible assumption) (by lcg_sub) | exact o_1' (by with_reducible assumption) (by lcg_sub) | exact o_lt (by with_reducible assumption) (by lcg_sub) | exact o_1 (by with_reducible assumption) (by lcg_sub) | exact o_3I (by with_reducible assumption) (by lcg_sub) | exact Ne.symm (o_3I (by with_reducible assumption) (by lcg_sub)) | exact o_3C (by with_reducible assumption) (by lcg_sub) | exact Ne.symm (o_3C (by with_reducible assumption) (by lcg_sub)) | exact o_3D (by with_reducible assumption) (by lcg_sub) | exact Ne.symm (o_3D (by with_reducible assumption) (by lcg_sub)) | exact o_4I (by with_reducible assumption) (by lcg_sub) | exact Ne.symm (o_4I (by with_reducible assumption) (by lcg_sub)) | exact o_4C (by with_reducible assumption) (by lcg_sub) | exact Ne.symm (o_4C (by with_reducible assumption) (by lcg_sub)) | exact o_4X (by with_reducible assumption) (by lcg_sub) | exact Ne.symm (o_4X (by with_reducible assumption) (by lcg_sub)) | exact o_4D (by with_reducible assumption) (by lcg_sub) | exact Ne.symm (o_4D (by with_reducible assumption) (by lcg_sub)) | ((repeat (first | exact cn1 | exact cn2 | exact cn3 | exact cn4 | exact cn5 | exact cn6 | exact cn7 | exact Ne.symm cn1 | exact Ne.symm cn2 | exact Ne.symm cn3 | exact Ne.symm cn4 | exact Ne.symm cn5 | exact Ne.symm cn6 | exact Ne.symm cn7 | refine cnS ?_)); done))
  k_with "k_all" => ((repeat ((refine' List.forall_mem_cons.mpr ⟨?ha, ?_⟩); (case ha => k_ne))); (first | exact List.forall_mem_nil _ | with_reducible assumption | exact all_lt (by with_reducible assumption) (by (repeat' (first | with_reducible assumption | exact Sub.refl | refine Sub.cons ?_ | refine Sub.app ?_))) | exact all_1 (by with_reducible assumption) (by (repeat' (first | with_reducible assumption | exact Sub.refl | refine Sub.cons ?_ | refine Sub.app ?_))) | exact all_3I (by with_reducible assumption) (by (repeat' (first | with_reducible assumption | exact Sub.refl | refine Sub.cons ?_ | refine Sub.app ?_))) | exact all_3C (by with_reducible assumption) (by (repeat' (first | with_reducible assumption | exact Sub.refl | refine Sub.cons ?_ | refine Sub.app ?_))) | exact all_3D (by with_reducible assumption) (by (repeat' (first | with_reducible assumption | exact Sub.refl | refine Sub.cons ?_ | refine Sub.app ?_))) | exact all_4I (by with_reducible assumption) (by (repeat' (first | with_reducible assumption | exact Sub.refl | refine Sub.cons ?_ | refine Sub.app ?_))) | exact all_4C (by with_reducible assumption) (by (repeat' (first | with_reducible assumption | exact Sub.refl | refine Sub.cons ?_ | refine Sub.app ?_))) | exact all_4X (by with_reducible assumption) (by (repeat' (first | with_reducible assumption | exact Sub.refl | refine Sub.cons ?_ | refine Sub.app ?_))) | exact all_4D (by with_reducible assumption) (by (repeat' (first | with_reducible assumption | exact Sub.refl | refine Sub.cons ?_ | refine Sub.app ?_))) | exact allLt_ne (by with_reducible assumption) (by repeat (first | exact Nat.le_refl _ | refine Nat.le_succ_of_le ?_))))
  k_with "k_enter" => skip
  k_with "FinE" => ((unfold LCg.FinE); intro D' h' tk' F' N' o1'; (try simp only [List.nil_append, List.cons_append] at N'); (try dsimp only))
  k_with "FinA" => ((unfold LCg.FinA); intro D' h' tk' F' N' o1'; (try simp only [List.nil_append, List.cons_append] at N'); (try dsimp only))
  k_with "CompEnd" => (refine' nt_compEnd ?F ?N ?P1 ?P2 ?P3 ?off ?S ?_; (case F => assumption); (case N => assumption); (case P1 => repeat' (first | exact Pick.head | refine' Pick.tail ?_)); (case P2 => repeat' (first | exact Pick.head | refine' Pick.tail ?_)); (case P3 => repeat' (first | exact Pick.head | refine' Pick.tail ?_)); (case off => lcg_off); (case S => first | lcg_src | assumption))
  k_with "eval ListComp" => (k_here; (with_reducible show wpAny _ _ (eval (PySem.Expr.ListComp _ [⟨PySem.Expr.Name _ _, _, [], _⟩] _ _) _) _ _ _); (try k_fold); k_dflt (refine LCg.ListComp_U (F₀ := by k_asm) (by with_unfolding_all rfl) (by decide) (by rfl) (by decide) (by rfl) ?_))
  k_with "exec Assign cons ListComp" => (k_here; k_dflt (refine LCg.Assign_ListComp_U (F₀ := by k_asm) (by rfl) (by with_unfolding_all rfl) (by with_unfolding_all rfl) (by decide) (by rfl) (by decide) (by rfl) (by rfl) (by rfl) ?_))
  k_with "eval ListComp" => (k_here; (with_reducible show wpAny _ _ (eval (PySem.Expr.ListComp _ [⟨PySem.Expr.Name _ _, _, [_], _⟩] _ _) _) _ _ _); (try k_fold); k_dflt (refine LCt.ListComp_T (F₀ := by k_asm) (by with_unfolding_all rfl) (by decide) (by rfl) (by decide) (by rfl) ?_))
  k_with "CompSrcT" => (k_here; k_dflt (first | (refine LCt.CompSrcT.ledger (by rfl) (by k_asm) (by k_asm) (by lcg_sub) (by first | exact Nat.le_of_ble_eq_true rfl | size_fits) ?_; intro g'; lct_lit) | (refine LCt.CompSrcT.range (by rfl) (by k_asm) (by k_asm) (by assumption) (by first | decide | rfl) (by first | rfl | decide) (by first | exact Nat.le_of_ble_eq_true rfl | size_fits) ?_; intro g'; lct_lit)))
  k_with "CompRestT" => (with_unfolding_all first | (refine LCt.CompRestT.succ ?_; intro v' I' oI' C' oC' D' m' h' tk' E' hv' hC' hx' F' N' off' ne'; (first | lcg_open hv' | (obtain ⟨t9', hv9'⟩ := hv'; subst hv9')); (obtain ⟨ne1', ne2', ne3'⟩ := ne')) | refine LCt.CompRestT.zero ?_)
  k_with "CompSrc" => (k_here; k_dflt (first | (refine LCg.CompSrc.ledger (by rfl) (by k_asm) (by k_asm) (by lcg_sub) (by first | exact Nat.le_of_ble_eq_true rfl | size_fits) ?_; intro g'; lcg_lit) | (refine LCg.CompSrc.range (by rfl) (by k_asm) (by k_asm) (by assumption) (by first | decide | rfl) (by first | rfl | decide) (by first | exact Nat.le_of_ble_eq_true rfl | size_fits) ?_; intro g'; lcg_lit)))
  k_with "CompRest" => (with_unfolding_all first | (refine LCg.CompRest.succ ?_; intro v' I' oI' C' oC' D' m' h' tk' E' hv' hC' hx' F' N' off' ne'; (first | lcg_open hv' | (obtain ⟨t9', hv9'⟩ := hv'; subst hv9')); (obtain ⟨ne1', ne2', ne3'⟩ := ne')) | refine LCg.CompRest.zero ?_)
  k_with "execs cons" => ((with_reducible refine gen_toks (fun tk => ?_)); (with_reducible refine wpAny_execs_cons ?_); (try dsimp only); (try k_fold))
  k_with "subscriptTail" => (k_here; (with_reducible show wpAny _ _ (subscriptTail _ _ (Value.ref _) (Value.int _ _)) _ _ _); k_dflt (first | (refine' nt_item ?N ?hm ?k2 ?k3 ?k4 ?_ ?k6; (case N => k_asm); (case hm => lcg_sub); (case k2 => decide); (case k3 => decide); (case k4 => exact rfl); (case k6 => with_unfolding_all rfl); k_whole) | (refine' nt_itemK ?X ?F ?hl ?k2 ?k3 ?k4 ?_ ?k6 ?k7; (case F => k_asm); (case X => k_asm); (case hl => k_is); (case k2 => decide); (case k3 => decide); (case k4 => exact rfl); (case k6 => with_unfolding_all rfl); (case k7 => intro _; with_unfolding_all rfl); k_whole) | (refine' nt_itemT ?N ?hm ?k2 ?k3 ?k4 ?_ ?k6 ?k7; (case N => k_asm); (case hm => lcg_sub); (case k2 => decide); (case k3 => decide); (case k4 => exact rfl); (case k6 => with_unfolding_all rfl); (case k7 => intro _; with_unfolding_all rfl); k_whole)))
  k_with "subscriptTail Name Constant ref int" => (k_here; (with_reducible show wpAny _ _ (subscriptTail _ _ (Value.ref _) (Value.int _ _)) _ _ _); k_dflt (first | (refine' nt_item ?N ?hm ?k2 ?k3 ?k4 ?_ ?k6; (case N => k_asm); (case hm => lcg_sub); (case k2 => decide); (case k3 => decide); (case k4 => exact rfl); (case k6 => with_unfolding_all rfl); k_whole) | (refine' nt_itemK ?X ?F ?hl ?k2 ?k3 ?k4 ?_ ?k6 ?k7; (case F => k_asm); (case X => k_asm); (case hl => k_is); (case k2 => decide); (case k3 => decide); (case k4 => exact rfl); (case k6 => with_unfolding_all rfl); (case k7 => intro _; with_unfolding_all rfl); k_whole) | (refine' nt_itemT ?N ?hm ?k2 ?k3 ?k4 ?_ ?k6 ?k7; (case N => k_asm); (case hm => lcg_sub); (case k2 => decide); (case k3 => decide); (case k4 => exact rfl); (case k6 => with_unfolding_all rfl); (case k7 => intro _; with_unfolding_all rfl); k_whole)))
  k_with "subscriptTail Name Name ref int" => (k_here; (with_reducible show wpAny _ _ (subscriptTail _ _ (Value.ref _) (Value.int _ _)) _ _ _); k_dflt (first | (refine' nt_item ?N ?hm ?k2 ?k3 ?k4 ?_ ?k6; (case N => k_asm); (case hm => lcg_sub); (case k2 => decide); (case k3 => decide); (case k4 => exact rfl); (case k6 => with_unfolding_all rfl); k_whole) | (refine' nt_itemK ?X ?F ?hl ?k2 ?k3 ?k4 ?_ ?k6 ?k7; (case F => k_asm); (case X => k_asm); (case hl => k_is); (case k2 => decide); (case k3 => decide); (case k4 => exact rfl); (case k6 => with_unfolding_all rfl); (case k7 => intro _; with_unfolding_all rfl); k_whole) | (refine' nt_itemT ?N ?hm ?k2 ?k3 ?k4 ?_ ?k6 ?k7; (case N => k_asm); (case hm => lcg_sub); (case k2 => decide); (case k3 => decide); (case k4 => exact rfl); (case k6 => with_unfolding_all rfl); (case k7 => intro _; with_unfolding_all rfl); k_whole)))
  k_with "subscriptTail Attribute Name Constant ref int" => (k_here; (with_reducible show wpAny _ _ (subscriptTail _ _ (Value.ref _) (Value.int _ _)) _ _ _); k_dflt (first | (refine' nt_item ?N ?hm ?k2 ?k3 ?k4 ?_ ?k6; (case N => k_asm); (case hm => lcg_sub); (case k2 => decide); (case k3 => decide); (case k4 => exact rfl); (case k6 => with_unfolding_all rfl); k_whole) | (refine' nt_itemK ?X ?F ?hl ?k2 ?k3 ?k4 ?_ ?k6 ?k7; (case F => k_asm); (case X => k_asm); (case hl => k_is); (case k2 => decide); (case k3 => decide); (case k4 => exact rfl); (case k6 => with_unfolding_all rfl); (case k7 => intro _; with_unfolding_all rfl); k_whole) | (refine' nt_itemT ?N ?hm ?k2 ?k3 ?k4 ?_ ?k6 ?k7; (case N => k_asm); (case hm => lcg_sub); (case k2 => decide); (case k3 => decide); (case k4 => exact rfl); (case k6 => with_unfolding_all rfl); (case k7 => intro _; with_unfolding_all rfl); k_whole)))
  k_with "subscriptTail Attribute Name Name ref int" => (k_here; (with_reducible show wpAny _ _ (subscriptTail _ _ (Value.ref _) (Value.int _ _)) _ _ _); k_dflt (first | (refine' nt_item ?N ?hm ?k2 ?k3 ?k4 ?_ ?k6; (case N => k_asm); (case hm => lcg_sub); (case k2 => decide); (case k3 => decide); (case k4 => exact rfl); (case k6 => with_unfolding_all rfl); k_whole) | (refine' nt_itemK ?X ?F ?hl ?k2 ?k3 ?k4 ?_ ?k6 ?k7; (case F => k_asm); (case X => k_asm); (case hl => k_is); (case k2 => decide); (case k3 => decide); (case k4 => exact rfl); (case k6 => with_unfolding_all rfl); (case k7 => intro _; with_unfolding_all rfl); k_whole) | (refine' nt_itemT ?N ?hm ?k2 ?k3 ?k4 ?_ ?k6 ?k7; (case N => k_asm); (case hm => lcg_sub); (case k2 => decide); (case k3 => decide); (case k4 => exact rfl); (case k6 => with_unfolding_all rfl); (case k7 => intro _; with_unfolding_all rfl); k_whole)))
  k_with "subscriptTail Subscript Name ref int" => (k_here; (with_reducible show wpAny _ _ (subscriptTail _ _ (Value.ref _) (Value.int _ _)) _ _ _); k_dflt (first | (refine' nt_item ?N ?hm ?k2 ?k3 ?k4 ?_ ?k6; (case N => k_asm); (case hm => lcg_sub); (case k2 => decide); (case k3 => decide); (case k4 => exact rfl); (case k6 => with_unfolding_all rfl); k_whole) | (refine' nt_itemK ?X ?F ?hl ?k2 ?k3 ?k4 ?_ ?k6 ?k7; (case F => k_asm); (case X => k_asm); (case hl => k_is); (case k2 => decide); (case k3 => decide); (case k4 => exact rfl); (case k6 => with_unfolding_all rfl); (case k7 => intro _; with_unfolding_all rfl); k_whole) | (refine' nt_itemT ?N ?hm ?k2 ?k3 ?k4 ?_ ?k6 ?k7; (case N => k_asm); (case hm => lcg_sub); (case k2 => decide); (case k3 => decide); (case k4 => exact rfl); (case k6 => with_unfolding_all rfl); (case k7 => intro _; with_unfolding_all rfl); k_whole)))
  k_with "subscriptTail Subscript Constant ref int" => (k_here; (with_reducible show wpAny _ _ (subscriptTail _ _ (Value.ref _) (Value.int _ _)) _ _ _); k_dflt (first | (refine' nt_item ?N ?hm ?k2 ?k3 ?k4 ?_ ?k6; (case N => k_asm); (case hm => lcg_sub); (case k2 => decide); (case k3 => decide); (case k4 => exact rfl); (case k6 => with_unfolding_all rfl); k_whole) | (refine' nt_itemK ?X ?F ?hl ?k2 ?k3 ?k4 ?_ ?k6 ?k7; (case F => k_asm); (case X => k_asm); (case hl => k_is); (case k2 => decide); (case k3 => decide); (case k4 => exact rfl); (case k6 => with_unfolding_all rfl); (case k7 => intro _; with_unfolding_all rfl); k_whole) | (refine' nt_itemT ?N ?hm ?k2 ?k3 ?k4 ?_ ?k6 ?k7; (case N => k_asm); (case hm => lcg_sub); (case k2 => decide); (case k3 => decide); (case k4 => exact rfl); (case k6 => with_unfolding_all rfl); (case k7 => intro _; with_unfolding_all rfl); k_whole)))
  k_with "setItem ref int" => (k_here; k_dflt (refine' ki_set ?F ?N ?k2 ?k3 ?k4 ?U ?_; (case F => k_asm); (case N => k_asm); (case U => k_upd); (case k2 => decide); (case k3 => decide); (case k4 => exact rfl); k_whole); intro h' F' N'; (try k_sweep))
  k_with "eval Name" => (k_here; (with_reducible show wpAny _ _ (eval (Expr.Name _ _) (envOf _ _ _ _ _)) _ _ _); (with_reducible rename Fr _ _ _ _ => kF); k_dflt (first | (name_kind "local"; (refine' ld kF ?k2 ?_ ?a ?b ?c; (case k2 => exact rfl); (case a => kernel_rfl!); (case b => kernel_rfl!); (case c => decide +kernel)); k_whole) | (name_kind "globalImplicit"; (refine' name_K kF ?k1 ?k2 ?k3 ?_ ?a ?b ?c; (case k1 => k_asm); (case k2 => k_asm); (case k3 => k_is); (case a => kernel_rfl!); (case b => kernel_rfl!); (case c => decide +kernel); k_whole)) | (refine' name_B kF ?k1 ?k2 ?k3 ?k4 ?k5 ?_; (case k1 => k_asm); (case k2 => k_asm); (case k3 => k_is); (case k4 => boot_by_name); (case k5 => decide); k_whole)))
  k_with "compareOp NotEq ref ref" => (k_here; k_dflt (first | (with_reducible refine' ne_t3 ?N ?ha ?hb ?e1 ?e2 ?e3 ?hu ?_; (case N => k_asm); (case ha => lcg_sub); (case hb => lcg_sub); (case e1 => first | assumption | exact (Grey.h (by assumption) (by assumption) (by assumption)).1 | exact (Grey2.h (by assumption) (by assumption) (by assumption)).1 | rfl); (case e2 => first | assumption | exact (Grey.h (by assumption) (by assumption) (by assumption)).2.1 | exact (Grey2.h (by assumption) (by assumption) (by assumption)).2.1 | rfl); (case e3 => first | assumption | exact (Grey.h (by assumption) (by assumption) (by assumption)).2.2 | exact (Grey2.h (by assumption) (by assumption) (by assumption)).2.2 | rfl); (case hu => units_room)) | (with_reducible refine' ne_l3 ?N ?ha ?hb ?e1 ?e2 ?e3 ?hu ?_; (case N => k_asm); (case ha => lcg_sub); (case hb => lcg_sub); (case e1 => first | assumption | exact (Grey.h (by assumption) (by assumption) (by assumption)).1 | exact (Grey2.h (by assumption) (by assumption) (by assumption)).1 | rfl); (case e2 => first | assumption | exact (Grey.h (by assumption) (by assumption) (by assumption)).2.1 | exact (Grey2.h (by assumption) (by assumption) (by assumption)).2.1 | rfl); (case e3 => first | assumption | exact (Grey.h (by assumption) (by assumption) (by assumption)).2.2 | exact (Grey2.h (by assumption) (by assumption) (by assumption)).2.2 | rfl); (case hu => units_room)) | (with_reducible refine' ne_l0 ?N ?ha ?hb ?hu ?_; (case N => k_asm); (case ha => lcg_sub); (case hb => lcg_sub); (case hu => units_room))))
  k_with "compareOp Eq ref ref" => (k_here; k_dflt ((with_reducible refine' eq_l0 ?N ?ha ?hb ?hu ?_; (case N => k_asm); (case ha => lcg_sub); (case hb => lcg_sub); (case hu => units_room))))
  k_with "eval Call" => ((with_reducible show wpAny _ _ (eval (Expr.Call (Expr.Name _ _) _ [] _) (envOf _ _ _ _ _)) _ _ _); k_dflt (refine Call_ ?_))
  k_with "call builtin:list.append" => (k_here; (with_reducible show wpAny _ _ (call (Value.builtin _) [Value.ref _, _]) _ _ _); k_dflt (refine' nt_append ?F ?N ?P ?off ?hsz ?_; (case F => k_asm); (case N => k_asm); (case P => repeat' (first | exact Pick.head | refine' Pick.tail ?_)); (case off => k_all); (case hsz => first | exact Nat.le_of_ble_eq_true rfl | size_fits)); intro h' F' N'; (try simp only [List.cons_append, List.nil_append] at N'); (try k_sweep))
  k_with "exec For Name Call cons nil" => (k_here; (with_reducible rename Fr _ _ _ _ => lF'); (with_unfolding_all refine' For_turns lF' ?_; k_whole))
  k_with "pyIter ref" => (k_here; (with_reducible show wpAny _ _ (pyIter (Value.ref _)) (fun it s₂ => TurnsAt _ _ _ _ _ _ _ _ _ it s₂) _ _); k_dflt (refine' rangeTurns ?hh ?hr ?hs ?hn ?F ?N ?_; (case hh => rfl); (case hr => assumption); (case hs => first | decide | rfl); (case hn => first | rfl | decide); (case F => k_asm); (case N => k_asm)); intro i' l1'; (try k_lt l1'))
  k_with "UnrEndW" => (refine' unrEnd ?F ?N ?P ?off ⟨trivial, ?_⟩; (case F => assumption); (case N => assumption); (case P => repeat' (first | exact Pick.head | refine' Pick.tail ?_)); (case off => k_all))
  k_with "eval ListComp" => (k_here; (with_reducible show wpAny _ _ (eval (PySem.Expr.ListComp _ [⟨PySem.Expr.Name _ _, _, [], _⟩] _ _) _) _ _ _); (try k_fold); k_dflt (refine ListComp_X (F₀ := by k_asm) (by with_unfolding_all rfl) (by intro _; rfl) (by intro _; rfl) (by rfl) (by decide) (by rfl) ?_))
  k_with "SrcX" => (k_here; k_dflt (refine SrcX.intro (by rfl) (by k_asm) (by k_asm) (by assumption) (by first | decide | rfl) (by first | rfl | decide) (by first | exact Nat.le_of_ble_eq_true rfl | size_fits) ?_; intro g'))
  k_with "RestX" => (with_unfolding_all first | (refine RestX.succ ?_; intro t' I' oI' C' oC' X' oX' D' h' tk' E' hX' F' N' off' ne'; (obtain ⟨ne1', ne2', ne3', ne4', ne5', ne6'⟩ := ne')) | refine RestX.zero ?_)
  k_with "EndX" => (refine' EndX.intro ?F ?N ?P1 ?P2 ?P3 ?P4 ?off ?_; (case F => assumption); (case N => assumption); (case P1 => repeat' (first | exact Pick.head | refine' Pick.tail ?_)); (case P2 => repeat' (first | exact Pick.head | refine' Pick.tail ?_)); (case P3 => repeat' (first | exact Pick.head | refine' Pick.tail ?_)); (case P4 => repeat' (first | exact Pick.head | refine' Pick.tail ?_)); (case off => repeat' (first | exact True.intro | assumption | (refine And.intro (by first | assumption | exact ⟨by k_ne, by k_ne, by k_ne, by k_ne⟩) ?_))))
  k_with "call ref" => (k_here; (with_reducible show wpAny _ _ (call (Value.ref 239) _) _ _ _); k_dflt (refine' Con.use (c_is_ycck_cmyk _ _ _ _) ?B ?F ?X ?N ?T ?hk ?hd ?hu ?_; (case F => k_asm); (case N => k_asm); (case T => k_asm); (case X => k_asm); (case B => k_asm); (case hk => first | exact rfl | assumption); (case hd => ktr_room); (case hu => ktr_units); k_whole); intro h' tk' F' N'; (try k_sweep))
  k_with "call ref" => (k_here; (with_reducible show wpAny _ _ (call (Value.ref 244) _) _ _ _); k_dflt (refine' Con.use (c_tplanesK _ _ _ _ _ _ _ _ _ _ _ _ _ _ _ _ _ 4 4 _ _ _ ?hl (g_cmyk ?hp ?hm1 ?hm2) ?hm1 ?hm2 ?hm3 (by decide) (by decide) ?hP ?ok) ?B ?F ?X ?N ?T ?hk ?hd ?hu ?_; (case F => k_asm); (case N => k_asm); (case hl => assumption); (case hp => assumption); (case hm1 => lcg_sub); (case hm2 => lcg_sub); (case hm3 => lcg_sub); (case hP => (refine' Planes.sub ?s9 ?h9; (case h9 => with_reducible assumption); (case s9 => (repeat' (first | with_reducible assumption | exact Sub.refl | refine Sub.cons ?_ | refine Sub.app ?_))))); (case ok => assumption); (case T => k_asm); (case X => k_asm); (case B => k_asm); (case hk => first | exact rfl | assumption); (case hd => ktr_room); (case hu => ktr_units); k_whole); intro D' qs' o' c' T' h' tk' r' lq' p' s' F' N'; (try k_sweep))
  k_with "call ref" => (k_here; (with_reducible show wpAny _ _ (call (Value.ref 84) _) _ _ _); k_dflt (refine' Con.use (c_plane _ _ _ _ _ _ _) ?B ?F ?X ?N ?T ?hk ?hd ?hu ?_; (case F => k_asm); (case N => k_asm); (case T => k_asm); (case X => k_asm); (case B => k_asm); (case hk => first | exact rfl | assumption); (case hd => ktr_room); (case hu => ktr_units); k_whole); intro x' d' k1' k2' k3' h' tk' F' N' l1' l2' l3'; skip; (try k_sweep))
  k_with "call ref" => (k_here; (with_reducible show wpAny _ _ (call (Value.ref 122) _) _ _ _); k_dflt (refine' Con.use (c_pic _ _ _ _ _ _ _) ?B ?F ?X ?N ?T ?hk ?hd ?hu ?_; (case F => k_asm); (case N => k_asm); (case T => k_asm); (case X => k_asm); (case B => k_asm); (case hk => first | exact rfl | assumption); (case hd => ktr_room); (case hu => ktr_units); k_whole); intro x' d' k1' k2' k3' h' tk' F' N' l1' l2' l3'; skip; (try k_sweep))
  k_with "call ref" => (k_here; (with_reducible show wpAny _ _ (call (Value.ref 228) _) _ _ _); k_dflt (refine' Con.use (c_turning _ _ _ _ _ _ _ _) ?B ?F ?X ?N ?T ?hk ?hd ?hu ?_; (case F => k_asm); (case N => k_asm); (case T => k_asm); (case X => k_asm); (case B => k_asm); (case hk => first | exact rfl | assumption); (case hd => ktr_room); (case hu => ktr_units); k_whole); intro x' d' k1' k2' k3' h' tk' F' N' l1' l2' l3'; skip; (try k_sweep))
  unfold Con
  k_fill
  intro mean mg mb dp un gd cn cs aa ccd cl outer A₀ base h₀ L m s Q E B F X9 N T9 hk hd hu hret
  obtain ⟨dX, taX, tpX, k1X, k2X, k3X, mX1, mX2⟩ := hX
  obtain ⟨hp₀, gn₀, dr₀, tk₀, os₀⟩ := s
  refine wpAny_call ?_
  k_dflt k_enter
  k_steps
  all_goals (rename Fr h₀ L _ _ => hF; rename News h₀ L _ _ => hN)
  refine' hret _ _ _ _ _ _ _ _ ?r ?pc ?ql ?len ?pq ?s0 ?F ?N
  case F => exact hF
  case N => exact hN
  case pc => exact ⟨_, _, _, _, _, _, by lcg_sub, by lcg_sub⟩
  case ql => lcg_sub
  case r => assumption
  case len => assumption
  case pq =>
    refine' Planes.sub ?s9 ?h9
    case h9 => with_reducible assumption
    case s9 => repeat (with_reducible first | assumption | exact Sub.refl | refine Sub.cons ?_)
  case s0 =>
    repeat (with_reducible first | assumption | exact Sub.refl | refine Sub.cons ?_)
    refine' Sub.trans ?u9 ?v9
    case v9 => with_reducible assumption
    case u9 => repeat (with_reducible first | exact Sub.refl | refine Sub.cons ?_)
end
-- NtPg_E
section
open PySem PySem.W PySem.Spec PySem.Calls PyProof.Rows PySem.SeqAt
theorem c_tpg_rgb_grey (w : World) (news : Led) (X pl : Addr) (p : Int) (c : Nat) (t : Tok) (v₀ : Value) (ps : List Value) (d : Nat → Nat → Int) (hX : PicIn w news X (Str.ofString "rgb") p pl) (hpl : (pl, listOf (v₀ :: ps).toArray c) ∈ news) (hl : (v₀ :: ps).length = 3) (hP : Planes w news d (v₀ :: ps)) (hp : 2 ≤ p ∧ p ≤ 8) (ok : ∀ q, Ok3G p fun i => d i q) :
   Con w 254 [.ref X, .str (Str.ofString "grey") t] news 40 (fun h₀ L m Q => ∀ (Y ql : Addr) (qs : List Value) (o : Nat → Nat → Int) (c : Nat) (T : Led) (h' : Heap) (tk' : Nat), (∀ q, q < 4 → RgreyG (fun i => d i q) fun j => o j q) →
     PicIn w T Y (Str.ofString "grey") p ql → (ql, listOf qs.toArray c) ∈ T → qs.length = 1 → Planes w T o qs → Sub news T → Fr h₀ L h' m → News h₀ L h' T → Q (.ref Y) h' tk') := by
  w_top off
  k_with_none
  k_with "k_room" => skip
  k_with "units_room" => skip
  k_with "k_all" => ((repeat ((refine' List.forall_mem_cons.mpr ⟨?ha, ?_⟩); (case ha => k_ne))); (first | exact List.forall_mem_nil _ | assumption | exact off1_all (by assumption) | exact allLt_ne (by assumption) (by (try dsimp only); omega) | ((with_reducible rename _ ∧ AllLt _ _ => hx9); exact allLt_ne hx9.2 (by (try dsimp only); omega)) | ((with_reducible rename _ ∧ _ ∧ AllLt _ _ => hx9); exact allLt_ne hx9.2.2 (by (try dsimp only); omega)) | ((with_reducible rename _ ∧ _ ∧ _ ∧ AllLt _ _ => hx9); exact allLt_ne hx9.2.2.2 (by (try dsimp only); omega))))
  k_with "lcg_sub" => first | with_reducible assumption | ((with_reducible (repeat' (first | exact List.mem_cons_self | assumption | refine List.mem_cons_of_mem _ ?_ | refine List.mem_append_right _ ?_))); done)
  k_with "k_mem" => first | with_reducible assumption | ((with_reducible (repeat' (first | exact List.mem_cons_self | assumption | refine List.mem_cons_of_mem _ ?_ | refine List.mem_append_right _ ?_))); done)
  k_with "lcg_off" => first | exact True.intro | assumption | (refine And.intro (by first | assumption | exact ⟨by k_ne, by k_ne, by k_ne⟩) ?_; lcg_off)
  k_with "k_lt" => skip
  k_with "k_ne" => (refine neN ?_; (try dsimp only); first | with_reducible assumption | exact Ne.symm (by with_reducible assumption) | exact o_gt (by with_reducible assumption) (by lcg_sub) | exact o_1' (by with_reducible assumption) (by lcg_sub) | exact o_lt (by with_reducible assumption) (by lcg_sub) | exact o_1 (by with_reducible assumption) (by lcg_sub) | exact o_3I (by with_reducible assumption) (by lcg_sub) | exact Ne.symm (o_3I (by with_reducible assumption) (by lcg_sub)) | exact o_3C (by with_reducible assumption) (by lcg_sub) | exact Ne.symm (o_3C (by with_reducible assumption) (by lcg_sub)) | exact o_3D (by with_reducible assumption) (by lcg_sub) | exact Ne.symm (o_3D (by with_reducible assumption) (by lcg_sub)) | exact o_4I (by with_reducible assumption) (by lcg_sub) | exact Ne.symm (o_4I (by with_reducible assumption) (by lcg_sub)) | exact o_4C (by with_reducible assumption) (by lcg_sub) | exact Ne.symm (o_4C (by with_reducible assumption) (by lcg_sub)) | exact o_4X (by with_reducible assumption) (by lcg_sub) | exact Ne.symm (o_4X (by with_reducible assumption) (by lcg_sub)) | exact o_4D (by with_reducible assumption) (by lcg_sub) | exact Ne.symm (o_4D (by with_reducible assumption) (by lcg_sub)) | ((repeat (first | exact cn1 | exact cn2 | exact cn3 | exact cn4 | exact cn5 | exact cn6 | exact cn7 | exact Ne.symm cn1 | exact Ne.symm cn2 | exact Ne.symm cn3 | exact Ne.symm cn4 | exact Ne.symm cn5 | exact Ne.symm cn6 | exact Ne.symm cn7 | refine cnS ?_)); done))
  k_with "k_all" => ((repeat ((refine' List.forall_mem_cons.mpr ⟨?ha, ?_⟩); (case ha => k_ne))); (first | exact List.forall_mem_nil _ | with_reducible assumption | exact all_lt (by with_reducible assumption) (by (repeat' (first | with_reducible assumption | exact Sub.refl | refine Sub.cons ?_ | refine Sub.app ?_))) | exact all_1 (by with_reducible assumption) (by (repeat' (first | with_reducible assumption | exact Sub.refl | refine Sub.cons ?_ | refine Sub.app ?_))) | exact all_3I (by with_reducible assumption) (by (repeat' (first | with_reducible assumption | exact Sub.refl | refine Sub.cons ?_ | refine Sub.app ?_))) | exact all_3C (by with_reducible assumption) (by (repeat' (first | with_reducible assumption | exact Sub.refl | refine Sub.cons ?_ | refine Sub.app ?_))) | exact all_3D (by with_reducible assumption) (by (repeat' (first | with_reducible assumption | exact Sub.refl | refine Sub.cons ?_ | refine Sub.app ?_))) | exact all_4I (by with_reducible assumption) (by (repeat' (first | with_reducible assumption | exact Sub.refl | refine Sub.cons ?_ | refine Sub.app ?_))) | exact all_4C (by with_reducible assumption) (by (repeat' (first | with_reducible assumption | exact Sub.refl | refine Sub.cons ?_ | refine Sub.app ?_))) | exact all_4X (by with_reducible assumption) (by (repeat' (first | with_reducible assumption | exact Sub.refl | refine Sub.cons ?_ | refine Sub.app ?_))) | exact all_4D (by with_reducible assumption) (by (repeat' (first | with_reducible assumption | exact Sub.refl | refine Sub.cons ?_ | refine Sub.app ?_))) | exact allLt_ne (by with_reducible assumption) (by repeat (first | exact Nat.le_refl _ | refine Nat.le_succ_of_le ?_))))
  k_with "k_enter" => skip
  k_with "FinE" => ((unfold LCg.FinE); intro D' h' tk' F' N' o1'; (try simp only [List.nil_append, List.cons_append] at N'); (try dsimp only))
  k_with "FinA" => ((unfold LCg.FinA); intro D' h' tk' F' N' o1'; (try simp only [List.nil_append, List.cons_append] at N'); (try dsimp only))
  k_with "CompEnd" => (refine' nt_compEnd ?F ?N ?P1 ?P2 ?P3 ?off ?S ?_; (case F => assumption); (case N => assumption); (case P1 => repeat' (first | exact Pick.head | refine' Pick.tail ?_)); (case P2 => repeat' (first | exact Pick.head | refine' Pick.tail ?_)); (case P3 => repeat' (first | exact Pick.head | refine' Pick.tail ?_)); (case off => lcg_off); (case S => first | lcg_src | assumption))
  k_with "eval ListComp" => (k_here; (with_reducible show wpAny _ _ (eval (PySem.Expr.ListComp _ [⟨PySem.Expr.Name _ _, _, [], _⟩] _ _) _) _ _ _); (try k_fold); k_dflt (refine LCg.ListComp_U (F₀ := by k_asm) (by with_unfolding_all rfl) (by decide) (by rfl) (by decide) (by rfl) ?_))
  k_with "exec Assign cons ListComp" => (k_here; k_dflt (refine LCg.Assign_ListComp_U (F₀ := by k_asm) (by rfl) (by with_unfolding_all rfl) (by with_unfolding_all rfl) (by decide) (by rfl) (by decide) (by rfl) (by rfl) (by rfl) ?_))
  k_with "eval ListComp" => (k_here; (with_reducible show wpAny _ _ (eval (PySem.Expr.ListComp _ [⟨PySem.Expr.Name _ _, _, [_], _⟩] _ _) _) _ _ _); (try k_fold); k_dflt (refine LCt.ListComp_T (F₀ := by k_asm) (by with_unfolding_all rfl) (by decide) (by rfl) (by decide) (by rfl) ?_))
  k_with "CompSrcT" => (k_here; k_dflt (first | (refine LCt.CompSrcT.ledger (by rfl) (by k_asm) (by k_asm) (by lcg_sub) (by first | exact Nat.le_of_ble_eq_true rfl | size_fits) ?_; intro g'; lct_lit) | (refine LCt.CompSrcT.range (by rfl) (by k_asm) (by k_asm) (by assumption) (by first | decide | rfl) (by first | rfl | decide) (by first | exact Nat.le_of_ble_eq_true rfl | size_fits) ?_; intro g'; lct_lit)))
  k_with "CompRestT" => (with_unfolding_all first | (refine LCt.CompRestT.succ ?_; intro v' I' oI' C' oC' D' m' h' tk' E' hv' hC' hx' F' N' off' ne'; (first | lcg_open hv' | (obtain ⟨t9', hv9'⟩ := hv'; subst hv9')); (obtain ⟨ne1', ne2', ne3'⟩ := ne')) | refine LCt.CompRestT.zero ?_)
  k_with "CompSrc" => (k_here; k_dflt (first | (refine LCg.CompSrc.ledger (by rfl) (by k_asm) (by k_asm) (by lcg_sub) (by first | exact Nat.le_of_ble_eq_true rfl | size_fits) ?_; intro g'; lcg_lit) | (refine LCg.CompSrc.range (by rfl) (by k_asm) (by k_asm) (by assumption) (by first | decide | rfl) (by first | rfl | decide) (by first | exact Nat.le_of_ble_eq_true rfl | size_fits) ?_; intro g'; lcg_lit)))
  k_with "CompRest" => (with_unfolding_all first | (refine LCg.CompRest.succ ?_; intro v' I' oI' C' oC' D' m' h' tk' E' hv' hC' hx' F' N' off' ne'; (first | lcg_open hv' | (obtain ⟨t9', hv9'⟩ := hv'; subst hv9')); (obtain ⟨ne1', ne2', ne3'⟩ := ne')) | refine LCg.CompRest.zero ?_)
  k_with "execs cons" => ((with_reducible refine gen_toks (fun tk => ?_)); (with_reducible refine wpAny_execs_cons ?_); (try dsimp only); (try k_fold))
  k_with "subscriptTail" => (k_here; (with_reducible show wpAny _ _ (subscriptTail _ _ (Value.ref _) (Value.int _ _)) _ _ _); k_dflt (first | (refine' nt_item ?N ?hm ?k2 ?k3 ?k4 ?_ ?k6; (case N => k_asm); (case hm => lcg_sub); (case k2 => decide); (case k3 => decide); (case k4 => exact rfl); (case k6 => with_unfolding_all rfl); k_whole) | (refine' nt_itemK ?X ?F ?hl ?k2 ?k3 ?k4 ?_ ?k6 ?k7; (case F => k_asm); (case X => k_asm); (case hl => k_is); (case k2 => decide); (case k3 => decide); (case k4 => exact rfl); (case k6 => with_unfolding_all rfl); (case k7 => intro _; with_unfolding_all rfl); k_whole) | (refine' nt_itemT ?N ?hm ?k2 ?k3 ?k4 ?_ ?k6 ?k7; (case N => k_asm); (case hm => lcg_sub); (case k2 => decide); (case k3 => decide); (case k4 => exact rfl); (case k6 => with_unfolding_all rfl); (case k7 => intro _; with_unfolding_all rfl); k_whole)))
  k_with "subscriptTail Name Constant ref int" => (k_here; (with_reducible show wpAny _ _ (subscriptTail _ _ (Value.ref _) (Value.int _ _)) _ _ _); k_dflt (first | (refine' nt_item ?N ?hm ?k2 ?k3 ?k4 ?_ ?k6; (case N => k_asm); (case hm => lcg_sub); (case k2 => decide); (case k3 => decide); (case k4 => exact rfl); (case k6 => with_unfolding_all rfl); k_whole) | (refine' nt_itemK ?X ?F ?hl ?k2 ?k3 ?k4 ?_ ?k6 ?k7; (case F => k_asm); (case X => k_asm); (case hl => k_is); (case k2 => decide); (case k3 => decide); (case k4 => exact rfl); (case k6 => with_unfolding_all rfl); (case k7 => intro _; with_unfolding_all rfl); k_whole) | (refine' nt_itemT ?N ?hm ?k2 ?k3 ?k4 ?_ ?k6 ?k7; (case N => k_asm); (case hm => lcg_sub); (case k2 => decide); (case k3 => decide); (case k4 => exact rfl); (case k6 => with_unfolding_all rfl); (case k7 => intro _; with_unfolding_all rfl); k_whole)))
  k_with "subscriptTail Name Name ref int" => (k_here; (with_reducible show wpAny _ _ (subscriptTail _ _ (Value.ref _) (Value.int _ _)) _ _ _); k_dflt (first | (refine' nt_item ?N ?hm ?k2 ?k3 ?k4 ?_ ?k6; (case N => k_asm); (case hm => lcg_sub); (case k2 => decide); (case k3 => decide); (case k4 => exact rfl); (case k6 => with_unfolding_all rfl); k_whole) | (refine' nt_itemK ?X ?F ?hl ?k2 ?k3 ?k4 ?_ ?k6 ?k7; (case F => k_asm); (case X => k_asm); (case hl => k_is); (case k2 => decide); (case k3 => decide); (case k4 => exact rfl); (case k6 => with_unfolding_all rfl); (case k7 => intro _; with_unfolding_all rfl); k_whole) | (refine' nt_itemT ?N ?hm ?k2 ?k3 ?k4 ?_ ?k6 ?k7; (case N => k_asm); (case hm => lcg_sub); (case k2 => decide); (case k3 => decide); (case k4 => exact rfl); (case k6 => with_unfolding_all rfl); (case k7 => intro _; with_unfolding_all rfl); k_whole)))
  k_with "subscriptTail Attribute Name Constant ref int" => (k_here; (with_reducible show wpAny _ _ (subscriptTail _ _ (Value.ref _) (Value.int _ _)) _ _ _); k_dflt (first | (refine' nt_item ?N ?hm ?k2 ?k3 ?k4 ?_ ?k6; (case N => k_asm); (case hm => lcg_sub); (case k2 => decide); (case k3 => decide); (case k4 => exact rfl); (case k6 => with_unfolding_all rfl); k_whole) | (refine' nt_itemK ?X ?F ?hl ?k2 ?k3 ?k4 ?_ ?k6 ?k7; (case F => k_asm); (case X => k_asm); (case hl => k_is); (case k2 => decide); (case k3 => decide); (case k4 => exact rfl); (case k6 => with_unfolding_all rfl); (case k7 => intro _; with_unfolding_all rfl); k_whole) | (refine' nt_itemT ?N ?hm ?k2 ?k3 ?k4 ?_ ?k6 ?k7; (case N => k_asm); (case hm => lcg_sub); (case k2 => decide); (case k3 => decide); (case k4 => exact rfl); (case k6 => with_unfolding_all rfl); (case k7 => intro _; with_unfolding_all rfl); k_whole)))
  k_with "subscriptTail Attribute Name Name ref int" => (k_here; (with_reducible show wpAny _ _ (subscriptTail _ _ (Value.ref _) (Value.int _ _)) _ _ _); k_dflt (first | (refine' nt_item ?N ?hm ?k2 ?k3 ?k4 ?_ ?k6; (case N => k_asm); (case hm => lcg_sub); (case k2 => decide); (case k3 => decide); (case k4 => exact rfl); (case k6 => with_unfolding_all rfl); k_whole) | (refine' nt_itemK ?X ?F ?hl ?k2 ?k3 ?k4 ?_ ?k6 ?k7; (case F => k_asm); (case X => k_asm); (case hl => k_is); (case k2 => decide); (case k3 => decide); (case k4 => exact rfl); (case k6 => with_unfolding_all rfl); (case k7 => intro _; with_unfolding_all rfl); k_whole) | (refine' nt_itemT ?N ?hm ?k2 ?k3 ?k4 ?_ ?k6 ?k7; (case N => k_asm); (case hm => lcg_sub); (case k2 => decide); (case k3 => decide); (case k4 => exact rfl); (case k6 => with_unfolding_all rfl); (case k7 => intro _; with_unfolding_all rfl); k_whole)))
  k_with "subscriptTail Subscript Name ref int" => (k_here; (with_reducible show wpAny _ _ (subscriptTail _ _ (Value.ref _) (Value.int _ _)) _ _ _); k_dflt (first | (refine' nt_item ?N ?hm ?k2 ?k3 ?k4 ?_ ?k6; (case N => k_asm); (case hm => lcg_sub); (case k2 => decide); (case k3 => decide); (case k4 => exact rfl); (case k6 => with_unfolding_all rfl); k_whole) | (refine' nt_itemK ?X ?F ?hl ?k2 ?k3 ?k4 ?_ ?k6 ?k7; (case F => k_asm); (case X => k_asm); (case hl => k_is); (case k2 => decide); (case k3 => decide); (case k4 => exact rfl); (case k6 => with_unfolding_all rfl); (case k7 => intro _; with_unfolding_all rfl); k_whole) | (refine' nt_itemT ?N ?hm ?k2 ?k3 ?k4 ?_ ?k6 ?k7; (case N => k_asm); (case hm => lcg_sub); (case k2 => decide); (case k3 => decide); (case k4 => exact rfl); (case k6 => with_unfolding_all rfl); (case k7 => intro _; with_unfolding_all rfl); k_whole)))
  k_with "subscriptTail Subscript Constant ref int" => (k_here; (with_reducible show wpAny _ _ (subscriptTail _ _ (Value.ref _) (Value.int _ _)) _ _ _); k_dflt (first | (refine' nt_item ?N ?hm ?k2 ?k3 ?k4 ?_ ?k6; (case N => k_asm); (case hm => lcg_sub); (case k2 => decide); (case k3 => decide); (case k4 => exact rfl); (case k6 => with_unfolding_all rfl); k_whole) | (refine' nt_itemK ?X ?F ?hl ?k2 ?k3 ?k4 ?_ ?k6 ?k7; (case F => k_asm); (case X => k_asm); (case hl => k_is); (case k2 => decide); (case k3 => decide); (case k4 => exact rfl); (case k6 => with_unfolding_all rfl); (case k7 => intro _; with_unfolding_all rfl); k_whole) | (refine' nt_itemT ?N ?hm ?k2 ?k3 ?k4 ?_ ?k6 ?k7; (case N => k_asm); (case hm => lcg_sub); (case k2 => decide); (case k3 => decide); (case k4 => exact rfl); (case k6 => with_unfolding_all rfl); (case k7 => intro _; with_unfolding_all rfl); k_whole)))
  k_with "setItem ref int" => (k_here; k_dflt (refine' ki_set ?F ?N ?k2 ?k3 ?k4 ?U ?_; (case F => k_asm); (case N => k_asm); (case U => k_upd); (case k2 => decide); (case k3 => decide); (case k4 => exact rfl); k_whole); intro h' F' N'; (try k_sweep))
  k_with "eval Name" => (k_here; (with_reducible show wpAny _ _ (eval (Expr.Name _ _) (envOf _ _ _ _ _)) _ _ _); (with_reducible rename Fr _ _ _ _ => kF); k_dflt (first | (name_kind "local"; (refine' ld kF ?k2 ?_ ?a ?b ?c; (case k2 => exact rfl); (case a => kernel_rfl!); (case b => kernel_rfl!); (case c => decide +kernel)); k_whole) | (name_kind "globalImplicit"; (refine' name_K kF ?k1 ?k2 ?k3 ?_ ?a ?b ?c; (case k1 => k_asm); (case k2 => k_asm); (case k3 => k_is); (case a => kernel_rfl!); (case b => kernel_rfl!); (case c => decide +kernel); k_whole)) | (refine' name_B kF ?k1 ?k2 ?k3 ?k4 ?k5 ?_; (case k1 => k_asm); (case k2 => k_asm); (case k3 => k_is); (case k4 => boot_by_name); (case k5 => decide); k_whole)))
  k_with "compareOp NotEq ref ref" => (k_here; k_dflt (first | (with_reducible refine' ne_t3 ?N ?ha ?hb ?e1 ?e2 ?e3 ?hu ?_; (case N => k_asm); (case ha => lcg_sub); (case hb => lcg_sub); (case e1 => first | assumption | exact (Grey.h (by assumption) (by assumption) (by assumption)).1 | exact (Grey2.h (by assumption) (by assumption) (by assumption)).1 | rfl); (case e2 => first | assumption | exact (Grey.h (by assumption) (by assumption) (by assumption)).2.1 | exact (Grey2.h (by assumption) (by assumption) (by assumption)).2.1 | rfl); (case e3 => first | assumption | exact (Grey.h (by assumption) (by assumption) (by assumption)).2.2 | exact (Grey2.h (by assumption) (by assumption) (by assumption)).2.2 | rfl); (case hu => units_room)) | (with_reducible refine' ne_l3 ?N ?ha ?hb ?e1 ?e2 ?e3 ?hu ?_; (case N => k_asm); (case ha => lcg_sub); (case hb => lcg_sub); (case e1 => first | assumption | exact (Grey.h (by assumption) (by assumption) (by assumption)).1 | exact (Grey2.h (by assumption) (by assumption) (by assumption)).1 | rfl); (case e2 => first | assumption | exact (Grey.h (by assumption) (by assumption) (by assumption)).2.1 | exact (Grey2.h (by assumption) (by assumption) (by assumption)).2.1 | rfl); (case e3 => first | assumption | exact (Grey.h (by assumption) (by assumption) (by assumption)).2.2 | exact (Grey2.h (by assumption) (by assumption) (by assumption)).2.2 | rfl); (case hu => units_room)) | (with_reducible refine' ne_l0 ?N ?ha ?hb ?hu ?_; (case N => k_asm); (case ha => lcg_sub); (case hb => lcg_sub); (case hu => units_room))))
  k_with "compareOp Eq ref ref" => (k_here; k_dflt ((with_reducible refine' eq_l0 ?N ?ha ?hb ?hu ?_; (case N => k_asm); (case ha => lcg_sub); (case hb => lcg_sub); (case hu => units_room))))
  k_with "eval Call" => ((with_reducible show wpAny _ _ (eval (Expr.Call (Expr.Name _ _) _ [] _) (envOf _ _ _ _ _)) _ _ _); k_dflt (refine Call_ ?_))
  k_with "call builtin:list.append" => (k_here; (with_reducible show wpAny _ _ (call (Value.builtin _) [Value.ref _, _]) _ _ _); k_dflt (refine' nt_append ?F ?N ?P ?off ?hsz ?_; (case F => k_asm); (case N => k_asm); (case P => repeat' (first | exact Pick.head | refine' Pick.tail ?_)); (case off => k_all); (case hsz => first | exact Nat.le_of_ble_eq_true rfl | size_fits)); intro h' F' N'; (try simp only [List.cons_append, List.nil_append] at N'); (try k_sweep))
  k_with "exec For Name Call cons nil" => (k_here; (with_reducible rename Fr _ _ _ _ => lF'); (with_unfolding_all refine' For_turns lF' ?_; k_whole))
  k_with "pyIter ref" => (k_here; (with_reducible show wpAny _ _ (pyIter (Value.ref _)) (fun it s₂ => TurnsAt _ _ _ _ _ _ _ _ _ it s₂) _ _); k_dflt (refine' rangeTurns ?hh ?hr ?hs ?hn ?F ?N ?_; (case hh => rfl); (case hr => assumption); (case hs => first | decide | rfl); (case hn => first | rfl | decide); (case F => k_asm); (case N => k_asm)); intro i' l1'; (try k_lt l1'))
  k_with "UnrEndW" => (refine' unrEnd ?F ?N ?P ?off ⟨trivial, ?_⟩; (case F => assumption); (case N => assumption); (case P => repeat' (first | exact Pick.head | refine' Pick.tail ?_)); (case off => k_all))
  k_with "eval ListComp" => (k_here; (with_reducible show wpAny _ _ (eval (PySem.Expr.ListComp _ [⟨PySem.Expr.Name _ _, _, [], _⟩] _ _) _) _ _ _); (try k_fold); k_dflt (refine ListComp_X (F₀ := by k_asm) (by with_unfolding_all rfl) (by intro _; rfl) (by intro _; rfl) (by rfl) (by decide) (by rfl) ?_))
  k_with "SrcX" => (k_here; k_dflt (refine SrcX.intro (by rfl) (by k_asm) (by k_asm) (by assumption) (by first | decide | rfl) (by first | rfl | decide) (by first | exact Nat.le_of_ble_eq_true rfl | size_fits) ?_; intro g'))
  k_with "RestX" => (with_unfolding_all first | (refine RestX.succ ?_; intro t' I' oI' C' oC' X' oX' D' h' tk' E' hX' F' N' off' ne'; (obtain ⟨ne1', ne2', ne3', ne4', ne5', ne6'⟩ := ne')) | refine RestX.zero ?_)
  k_with "EndX" => (refine' EndX.intro ?F ?N ?P1 ?P2 ?P3 ?P4 ?off ?_; (case F => assumption); (case N => assumption); (case P1 => repeat' (first | exact Pick.head | refine' Pick.tail ?_)); (case P2 => repeat' (first | exact Pick.head | refine' Pick.tail ?_)); (case P3 => repeat' (first | exact Pick.head | refine' Pick.tail ?_)); (case P4 => repeat' (first | exact Pick.head | refine' Pick.tail ?_)); (case off => repeat' (first | exact True.intro | assumption | (refine And.intro (by first | assumption | exact ⟨by k_ne, by k_ne, by k_ne, by k_ne⟩) ?_))))
  k_with "call ref" => (k_here; (with_reducible show wpAny _ _ (call (Value.ref 239) _) _ _ _); k_dflt (refine' Con.use (c_is_rgb_grey _ _ _ _) ?B ?F ?X ?N ?T ?hk ?hd ?hu ?_; (case F => k_asm); (case N => k_asm); (case T => k_asm); (case X => k_asm); (case B => k_asm); (case hk => first | exact rfl | assumption); (case hd => ktr_room); (case hu => ktr_units); k_whole); intro h' tk' F' N'; (try k_sweep))
  k_with "call ref" => (k_here; (with_reducible show wpAny _ _ (call (Value.ref 244) _) _ _ _); k_dflt (refine' Con.use (c_tplanesK _ _ _ _ _ _ _ _ _ _ _ _ _ _ _ _ _ 3 1 _ _ _ ?hl (g_grey ?hp ?hm1 ?hm2) ?hm1 ?hm2 ?hm3 (by decide) (by decide) ?hP ?ok) ?B ?F ?X ?N ?T ?hk ?hd ?hu ?_; (case F => k_asm); (case N => k_asm); (case hl => assumption); (case hp => assumption); (case hm1 => lcg_sub); (case hm2 => lcg_sub); (case hm3 => lcg_sub); (case hP => (refine' Planes.sub ?s9 ?h9; (case h9 => with_reducible assumption); (case s9 => (repeat' (first | with_reducible assumption | exact Sub.refl | refine Sub.cons ?_ | refine Sub.app ?_))))); (case ok => assumption); (case T => k_asm); (case X => k_asm); (case B => k_asm); (case hk => first | exact rfl | assumption); (case hd => ktr_room); (case hu => ktr_units); k_whole); intro D' qs' o' c' T' h' tk' r' lq' p' s' F' N'; (try k_sweep))
  k_with "call ref" => (k_here; (with_reducible show wpAny _ _ (call (Value.ref 84) _) _ _ _); k_dflt (refine' Con.use (c_plane _ _ _ _ _ _ _) ?B ?F ?X ?N ?T ?hk ?hd ?hu ?_; (case F => k_asm); (case N => k_asm); (case T => k_asm); (case X => k_asm); (case B => k_asm); (case hk => first | exact rfl | assumption); (case hd => ktr_room); (case hu => ktr_units); k_whole); intro x' d' k1' k2' k3' h' tk' F' N' l1' l2' l3'; skip; (try k_sweep))
  k_with "call ref" => (k_here; (with_reducible show wpAny _ _ (call (Value.ref 122) _) _ _ _); k_dflt (refine' Con.use (c_pic _ _ _ _ _ _ _) ?B ?F ?X ?N ?T ?hk ?hd ?hu ?_; (case F => k_asm); (case N => k_asm); (case T => k_asm); (case X => k_asm); (case B => k_asm); (case hk => first | exact rfl | assumption); (case hd => ktr_room); (case hu => ktr_units); k_whole); intro x' d' k1' k2' k3' h' tk' F' N' l1' l2' l3'; skip; (try k_sweep))
  k_with "call ref" => (k_here; (with_reducible show wpAny _ _ (call (Value.ref 228) _) _ _ _); k_dflt (refine' Con.use (c_turning _ _ _ _ _ _ _ _) ?B ?F ?X ?N ?T ?hk ?hd ?hu ?_; (case F => k_asm); (case N => k_asm); (case T => k_asm); (case X => k_asm); (case B => k_asm); (case hk => first | exact rfl | assumption); (case hd => ktr_room); (case hu => ktr_units); k_whole); intro x' d' k1' k2' k3' h' tk' F' N' l1' l2' l3'; skip; (try k_sweep))
  unfold Con
  k_fill
  intro mean mg mb dp un gd cn cs aa ccd cl outer A₀ base h₀ L m s Q E B F X9 N T9 hk hd hu hret
  obtain ⟨dX, taX, tpX, k1X, k2X, k3X, mX1, mX2⟩ := hX
  obtain ⟨hp₀, gn₀, dr₀, tk₀, os₀⟩ := s
  refine wpAny_call ?_
  k_dflt k_enter
  k_steps
  all_goals (rename Fr h₀ L _ _ => hF; rename News h₀ L _ _ => hN)
  refine' hret _ _ _ _ _ _ _ _ ?r ?pc ?ql ?len ?pq ?s0 ?F ?N
  case F => exact hF
  case N => exact hN
  case pc => exact ⟨_, _, _, _, _, _, by lcg_sub, by lcg_sub⟩
  case ql => lcg_sub
  case r => assumption
  case len => assumption
  case pq =>
    refine' Planes.sub ?s9 ?h9
    case h9 => with_reducible assumption
    case s9 => repeat (with_reducible first | assumption | exact Sub.refl | refine Sub.cons ?_)
  case s0 =>
    repeat (with_reducible first | assumption | exact Sub.refl | refine Sub.cons ?_)
    refine' Sub.trans ?u9 ?v9
    case v9 => with_reducible assumption
    case u9 => repeat (with_reducible first | exact Sub.refl | refine Sub.cons ?_)
end
-- NtOne
section
open PySem PySem.W PySem.Spec PySem.Calls PyProof.Rows PySem.SeqAt
theorem nt_itemStr {prog : Program} {w : World} {A : Around} {E : Value → Shared → Prop} {s : Shared} {h₀ : Heap} {L l : Addr} {news : Led} {a b c d : Str} {ta tb tc td : Tok} {n : Nat} {k : Int} {u : Tok} {value slice : PySem.Expr} {Q : Value → Shared → Prop} (N : News h₀ L s.heap news) (hm : (l, listOf #[.str a ta, .str b tb, .str c tc, .str d td] n) ∈ news) (h0 : 0 ≤ k) (h4 : k < 4)
    (h : ∀ x t, (x = a ∨ x = b ∨ x = c ∨ x = d) → Q (.str x t) s)
    (hs : subscripted slice false (.ref l) (.int k u) = operate [.ref l, .int k u] (getItem (.ref l) (.int k u)) := by with_unfolding_all rfl) :
    wpAny (model prog w) A (subscriptTail value slice (.ref l) (.int k u)) Q E s := by
  have : k = 0 ∨ k = 1 ∨ k = 2 ∨ k = 3 := by omega
  rcases this with rfl | rfl | rfl | rfl
  · exact nt_item N hm (by decide) (by decide) rfl (h _ _ (.inl rfl)) hs
  · exact nt_item N hm (by decide) (by decide) rfl (h _ _ (.inr (.inl rfl))) hs
  · exact nt_item N hm (by decide) (by decide) rfl (h _ _ (.inr (.inr (.inl rfl)))) hs
  · exact nt_item N hm (by decide) (by decide) rfl (h _ _ (.inr (.inr (.inr rfl)))) hs

theorem c_one (w : World) (src l : Addr) (i j : Int) (ti tj : Tok) (c n : Nat) (a b c' d : Str) (ta tb tc td : Tok) (rest : Led) (hne : ∀ p ∈ rest, p.1 ≠ src) (hm : (l, listOf #[.str a ta, .str b tb, .str c' tc, .str d td] n) ∈ rest) (h0 : 0 ≤ i) (hj : 0 ≤ j ∧ j < 2147483647) :
   Con w 282 [.ref src, .ref l] ((src, srcObj c i j ti tj) :: rest) 6
   (fun h₀ L m Q => ∀ (x : Str) (i' j' : Int) (t ti' tj' : Tok) (h' : Heap) (tk' : Nat), (x = a ∨ x = b ∨ x = c' ∨ x = d) → 0 ≤ i' → (0 ≤ j' ∧ j' < 2147483647) → Fr h₀ L h' m → News h₀ L h' ((src, srcObj c i' j' ti' tj') :: rest) → Q (.str x t) h' tk') := by
  w_top off
  k_with_none
  k_with "k_room" => skip
  k_with "units_room" => skip
  k_with "k_all" => ((repeat ((refine' List.forall_mem_cons.mpr ⟨?ha, ?_⟩); (case ha => k_ne))); (first | exact List.forall_mem_nil _ | assumption | exact off1_all (by assumption) | exact allLt_ne (by assumption) (by (try dsimp only); omega) | ((with_reducible rename _ ∧ AllLt _ _ => hx9); exact allLt_ne hx9.2 (by (try dsimp only); omega)) | ((with_reducible rename _ ∧ _ ∧ AllLt _ _ => hx9); exact allLt_ne hx9.2.2 (by (try dsimp only); omega)) | ((with_reducible rename _ ∧ _ ∧ _ ∧ AllLt _ _ => hx9); exact allLt_ne hx9.2.2.2 (by (try dsimp only); omega))))
  k_with "lcg_sub" => first | with_reducible assumption | ((with_reducible (repeat' (first | exact List.mem_cons_self | assumption | refine List.mem_cons_of_mem _ ?_ | refine List.mem_append_right _ ?_))); done)
  k_with "k_mem" => first | with_reducible assumption | ((with_reducible (repeat' (first | exact List.mem_cons_self | assumption | refine List.mem_cons_of_mem _ ?_ | refine List.mem_append_right _ ?_))); done)
  k_with "lcg_off" => first | exact True.intro | assumption | (refine And.intro (by first | assumption | exact ⟨by k_ne, by k_ne, by k_ne⟩) ?_; lcg_off)
  k_with "k_enter" => skip
  k_with "CompEnd" => (refine' nt_compEnd ?F ?N ?P1 ?P2 ?P3 ?off ?S ?_; (case F => assumption); (case N => assumption); (case P1 => repeat' (first | exact Pick.head | refine' Pick.tail ?_)); (case P2 => repeat' (first | exact Pick.head | refine' Pick.tail ?_)); (case P3 => repeat' (first | exact Pick.head | refine' Pick.tail ?_)); (case off => lcg_off); (case S => first | lcg_src | assumption))
  k_with "eval ListComp" => (k_here; (with_reducible show wpAny _ _ (eval (PySem.Expr.ListComp _ [⟨PySem.Expr.Name _ _, _, [], _⟩] _ _) _) _ _ _); (try k_fold); k_dflt (refine LCg.ListComp_U (F₀ := by k_asm) (by with_unfolding_all rfl) (by decide) (by rfl) (by decide) (by rfl) ?_))
  k_with "exec Assign cons ListComp" => (k_here; k_dflt (refine LCg.Assign_ListComp_U (F₀ := by k_asm) (by rfl) (by with_unfolding_all rfl) (by with_unfolding_all rfl) (by decide) (by rfl) (by decide) (by rfl) (by rfl) (by rfl) ?_))
  k_with "eval ListComp" => (k_here; (with_reducible show wpAny _ _ (eval (PySem.Expr.ListComp _ [⟨PySem.Expr.Name _ _, _, [_], _⟩] _ _) _) _ _ _); (try k_fold); k_dflt (refine LCt.ListComp_T (F₀ := by k_asm) (by with_unfolding_all rfl) (by decide) (by rfl) (by decide) (by rfl) ?_))
  k_with "CompSrcT" => (k_here; k_dflt (first | (refine LCt.CompSrcT.ledger (by rfl) (by k_asm) (by k_asm) (by lcg_sub) (by first | exact Nat.le_of_ble_eq_true rfl | size_fits) ?_; intro g'; lct_lit) | (refine LCt.CompSrcT.range (by rfl) (by k_asm) (by k_asm) (by assumption) (by first | decide | rfl) (by first | rfl | decide) (by first | exact Nat.le_of_ble_eq_true rfl | size_fits) ?_; intro g'; lct_lit)))
  k_with "CompRestT" => (with_unfolding_all first | (refine LCt.CompRestT.succ ?_; intro v' I' oI' C' oC' D' m' h' tk' E' hv' hC' hx' F' N' off' ne'; (first | lcg_open hv' | (obtain ⟨t9', hv9'⟩ := hv'; subst hv9')); (repeat (obtain ⟨ho', off'⟩ := off'))) | refine LCt.CompRestT.zero ?_)
  k_with "CompSrc" => (k_here; k_dflt (first | (refine LCg.CompSrc.ledger (by rfl) (by k_asm) (by k_asm) (by lcg_sub) (by first | exact Nat.le_of_ble_eq_true rfl | size_fits) ?_; intro g'; lcg_lit) | (refine LCg.CompSrc.range (by rfl) (by k_asm) (by k_asm) (by assumption) (by first | decide | rfl) (by first | rfl | decide) (by first | exact Nat.le_of_ble_eq_true rfl | size_fits) ?_; intro g'; lcg_lit)))
  k_with "CompRest" => (with_unfolding_all first | (refine LCg.CompRest.succ ?_; intro v' I' oI' C' oC' D' m' h' tk' E' hv' hC' hx' F' N' off' ne'; (first | lcg_open hv' | (obtain ⟨t9', hv9'⟩ := hv'; subst hv9')); (repeat (obtain ⟨ho', off'⟩ := off'))) | refine LCg.CompRest.zero ?_)
  k_with "execs cons" => ((with_reducible refine gen_toks (fun tk => ?_)); (with_reducible refine wpAny_execs_cons ?_); (try dsimp only); (try k_fold))
  k_with "subscriptTail" => (k_here; (with_reducible show wpAny _ _ (subscriptTail _ _ (Value.ref _) (Value.int _ _)) _ _ _); k_dflt (first | (refine' nt_item ?N ?hm ?k2 ?k3 ?k4 ?_ ?k6; (case N => k_asm); (case hm => lcg_sub); (case k2 => decide); (case k3 => decide); (case k4 => exact rfl); (case k6 => with_unfolding_all rfl); k_whole) | (refine' nt_itemK ?X ?F ?hl ?k2 ?k3 ?k4 ?_ ?k6 ?k7; (case F => k_asm); (case X => k_asm); (case hl => k_is); (case k2 => decide); (case k3 => decide); (case k4 => exact rfl); (case k6 => with_unfolding_all rfl); (case k7 => intro _; with_unfolding_all rfl); k_whole) | (refine' nt_itemT ?N ?hm ?k2 ?k3 ?k4 ?_ ?k6 ?k7; (case N => k_asm); (case hm => lcg_sub); (case k2 => decide); (case k3 => decide); (case k4 => exact rfl); (case k6 => with_unfolding_all rfl); (case k7 => intro _; with_unfolding_all rfl); k_whole)))
  k_with "subscriptTail Name Constant ref int" => (k_here; (with_reducible show wpAny _ _ (subscriptTail _ _ (Value.ref _) (Value.int _ _)) _ _ _); k_dflt (first | (refine' nt_item ?N ?hm ?k2 ?k3 ?k4 ?_ ?k6; (case N => k_asm); (case hm => lcg_sub); (case k2 => decide); (case k3 => decide); (case k4 => exact rfl); (case k6 => with_unfolding_all rfl); k_whole) | (refine' nt_itemK ?X ?F ?hl ?k2 ?k3 ?k4 ?_ ?k6 ?k7; (case F => k_asm); (case X => k_asm); (case hl => k_is); (case k2 => decide); (case k3 => decide); (case k4 => exact rfl); (case k6 => with_unfolding_all rfl); (case k7 => intro _; with_unfolding_all rfl); k_whole) | (refine' nt_itemT ?N ?hm ?k2 ?k3 ?k4 ?_ ?k6 ?k7; (case N => k_asm); (case hm => lcg_sub); (case k2 => decide); (case k3 => decide); (case k4 => exact rfl); (case k6 => with_unfolding_all rfl); (case k7 => intro _; with_unfolding_all rfl); k_whole)))
  k_with "subscriptTail Name Name ref int" => (k_here; (with_reducible show wpAny _ _ (subscriptTail _ _ (Value.ref _) (Value.int _ _)) _ _ _); k_dflt (first | (refine' nt_item ?N ?hm ?k2 ?k3 ?k4 ?_ ?k6; (case N => k_asm); (case hm => lcg_sub); (case k2 => decide); (case k3 => decide); (case k4 => exact rfl); (case k6 => with_unfolding_all rfl); k_whole) | (refine' nt_itemK ?X ?F ?hl ?k2 ?k3 ?k4 ?_ ?k6 ?k7; (case F => k_asm); (case X => k_asm); (case hl => k_is); (case k2 => decide); (case k3 => decide); (case k4 => exact rfl); (case k6 => with_unfolding_all rfl); (case k7 => intro _; with_unfolding_all rfl); k_whole) | (refine' nt_itemT ?N ?hm ?k2 ?k3 ?k4 ?_ ?k6 ?k7; (case N => k_asm); (case hm => lcg_sub); (case k2 => decide); (case k3 => decide); (case k4 => exact rfl); (case k6 => with_unfolding_all rfl); (case k7 => intro _; with_unfolding_all rfl); k_whole)))
  k_with "subscriptTail Attribute Name Constant ref int" => (k_here; (with_reducible show wpAny _ _ (subscriptTail _ _ (Value.ref _) (Value.int _ _)) _ _ _); k_dflt (first | (refine' nt_item ?N ?hm ?k2 ?k3 ?k4 ?_ ?k6; (case N => k_asm); (case hm => lcg_sub); (case k2 => decide); (case k3 => decide); (case k4 => exact rfl); (case k6 => with_unfolding_all rfl); k_whole) | (refine' nt_itemK ?X ?F ?hl ?k2 ?k3 ?k4 ?_ ?k6 ?k7; (case F => k_asm); (case X => k_asm); (case hl => k_is); (case k2 => decide); (case k3 => decide); (case k4 => exact rfl); (case k6 => with_unfolding_all rfl); (case k7 => intro _; with_unfolding_all rfl); k_whole) | (refine' nt_itemT ?N ?hm ?k2 ?k3 ?k4 ?_ ?k6 ?k7; (case N => k_asm); (case hm => lcg_sub); (case k2 => decide); (case k3 => decide); (case k4 => exact rfl); (case k6 => with_unfolding_all rfl); (case k7 => intro _; with_unfolding_all rfl); k_whole)))
  k_with "subscriptTail Attribute Name Name ref int" => (k_here; (with_reducible show wpAny _ _ (subscriptTail _ _ (Value.ref _) (Value.int _ _)) _ _ _); k_dflt (first | (refine' nt_item ?N ?hm ?k2 ?k3 ?k4 ?_ ?k6; (case N => k_asm); (case hm => lcg_sub); (case k2 => decide); (case k3 => decide); (case k4 => exact rfl); (case k6 => with_unfolding_all rfl); k_whole) | (refine' nt_itemK ?X ?F ?hl ?k2 ?k3 ?k4 ?_ ?k6 ?k7; (case F => k_asm); (case X => k_asm); (case hl => k_is); (case k2 => decide); (case k3 => decide); (case k4 => exact rfl); (case k6 => with_unfolding_all rfl); (case k7 => intro _; with_unfolding_all rfl); k_whole) | (refine' nt_itemT ?N ?hm ?k2 ?k3 ?k4 ?_ ?k6 ?k7; (case N => k_asm); (case hm => lcg_sub); (case k2 => decide); (case k3 => decide); (case k4 => exact rfl); (case k6 => with_unfolding_all rfl); (case k7 => intro _; with_unfolding_all rfl); k_whole)))
  k_with "subscriptTail Subscript Name ref int" => (k_here; (with_reducible show wpAny _ _ (subscriptTail _ _ (Value.ref _) (Value.int _ _)) _ _ _); k_dflt (first | (refine' nt_item ?N ?hm ?k2 ?k3 ?k4 ?_ ?k6; (case N => k_asm); (case hm => lcg_sub); (case k2 => decide); (case k3 => decide); (case k4 => exact rfl); (case k6 => with_unfolding_all rfl); k_whole) | (refine' nt_itemK ?X ?F ?hl ?k2 ?k3 ?k4 ?_ ?k6 ?k7; (case F => k_asm); (case X => k_asm); (case hl => k_is); (case k2 => decide); (case k3 => decide); (case k4 => exact rfl); (case k6 => with_unfolding_all rfl); (case k7 => intro _; with_unfolding_all rfl); k_whole) | (refine' nt_itemT ?N ?hm ?k2 ?k3 ?k4 ?_ ?k6 ?k7; (case N => k_asm); (case hm => lcg_sub); (case k2 => decide); (case k3 => decide); (case k4 => exact rfl); (case k6 => with_unfolding_all rfl); (case k7 => intro _; with_unfolding_all rfl); k_whole)))
  k_with "subscriptTail Subscript Constant ref int" => (k_here; (with_reducible show wpAny _ _ (subscriptTail _ _ (Value.ref _) (Value.int _ _)) _ _ _); k_dflt (first | (refine' nt_item ?N ?hm ?k2 ?k3 ?k4 ?_ ?k6; (case N => k_asm); (case hm => lcg_sub); (case k2 => decide); (case k3 => decide); (case k4 => exact rfl); (case k6 => with_unfolding_all rfl); k_whole) | (refine' nt_itemK ?X ?F ?hl ?k2 ?k3 ?k4 ?_ ?k6 ?k7; (case F => k_asm); (case X => k_asm); (case hl => k_is); (case k2 => decide); (case k3 => decide); (case k4 => exact rfl); (case k6 => with_unfolding_all rfl); (case k7 => intro _; with_unfolding_all rfl); k_whole) | (refine' nt_itemT ?N ?hm ?k2 ?k3 ?k4 ?_ ?k6 ?k7; (case N => k_asm); (case hm => lcg_sub); (case k2 => decide); (case k3 => decide); (case k4 => exact rfl); (case k6 => with_unfolding_all rfl); (case k7 => intro _; with_unfolding_all rfl); k_whole)))
  k_with "setItem ref int" => (k_here; k_dflt (refine' ki_set ?F ?N ?k2 ?k3 ?k4 ?U ?_; (case F => k_asm); (case N => k_asm); (case U => k_upd); (case k2 => decide); (case k3 => decide); (case k4 => exact rfl); k_whole); intro h' F' N'; (try k_sweep))
  k_with "eval Name" => (k_here; (with_reducible show wpAny _ _ (eval (Expr.Name _ _) (envOf _ _ _ _ _)) _ _ _); (with_reducible rename Fr _ _ _ _ => kF); k_dflt (first | (name_kind "local"; (refine' ld kF ?k2 ?_ ?a ?b ?c; (case k2 => exact rfl); (case a => kernel_rfl!); (case b => kernel_rfl!); (case c => decide +kernel)); k_whole) | (name_kind "globalImplicit"; (refine' name_K kF ?k1 ?k2 ?k3 ?_ ?a ?b ?c; (case k1 => k_asm); (case k2 => k_asm); (case k3 => k_is); (case a => kernel_rfl!); (case b => kernel_rfl!); (case c => decide +kernel); k_whole)) | (refine' name_B kF ?k1 ?k2 ?k3 ?k4 ?k5 ?_; (case k1 => k_asm); (case k2 => k_asm); (case k3 => k_is); (case k4 => boot_by_name); (case k5 => decide); k_whole)))
  k_with "call ref" => (k_here; (with_reducible show wpAny _ _ (call (Value.ref 275) _) _ _ _); k_dflt (refine' Con.use (c_take0 _ _ _ _ _ _ _ _ ?ne _ _ ?h0 ?hj ?ht) ?B ?F ?X ?N ?T ?hk ?hd ?hu ?_; (case F => k_asm); (case N => (refine' nt_pick ?N1 ?P1; (case N1 => k_asm); (case P1 => repeat' (first | exact Pick.head | refine' Pick.tail ?_)))); (case ne => k_all); (case h0 => omega); (case hj => omega); (case ht => omega); (case T => k_asm); (case X => k_asm); (case B => k_asm); (case hk => first | exact rfl | assumption); (case hd => ktr_room); (case hu => ktr_units); k_whole); intro d' i' j' td' ti' tj' h' tk' hi' hj' hd0' hd1' F' N'; (try k_sweep))
  k_with "compareOp NotEq ref ref" => (k_here; k_dflt (first | (with_reducible refine' ne_t3 ?N ?ha ?hb ?e1 ?e2 ?e3 ?hu ?_; (case N => k_asm); (case ha => lcg_sub); (case hb => lcg_sub); (case e1 => first | assumption | exact (Grey.h (by assumption) (by assumption) (by assumption)).1 | exact (Grey2.h (by assumption) (by assumption) (by assumption)).1 | rfl); (case e2 => first | assumption | exact (Grey.h (by assumption) (by assumption) (by assumption)).2.1 | exact (Grey2.h (by assumption) (by assumption) (by assumption)).2.1 | rfl); (case e3 => first | assumption | exact (Grey.h (by assumption) (by assumption) (by assumption)).2.2 | exact (Grey2.h (by assumption) (by assumption) (by assumption)).2.2 | rfl); (case hu => units_room)) | (with_reducible refine' ne_l3 ?N ?ha ?hb ?e1 ?e2 ?e3 ?hu ?_; (case N => k_asm); (case ha => lcg_sub); (case hb => lcg_sub); (case e1 => first | assumption | exact (Grey.h (by assumption) (by assumption) (by assumption)).1 | exact (Grey2.h (by assumption) (by assumption) (by assumption)).1 | rfl); (case e2 => first | assumption | exact (Grey.h (by assumption) (by assumption) (by assumption)).2.1 | exact (Grey2.h (by assumption) (by assumption) (by assumption)).2.1 | rfl); (case e3 => first | assumption | exact (Grey.h (by assumption) (by assumption) (by assumption)).2.2 | exact (Grey2.h (by assumption) (by assumption) (by assumption)).2.2 | rfl); (case hu => units_room)) | (with_reducible refine' ne_l0 ?N ?ha ?hb ?hu ?_; (case N => k_asm); (case ha => lcg_sub); (case hb => lcg_sub); (case hu => units_room))))
  k_with "compareOp Eq ref ref" => (k_here; k_dflt ((with_reducible refine' eq_l0 ?N ?ha ?hb ?hu ?_; (case N => k_asm); (case ha => lcg_sub); (case hb => lcg_sub); (case hu => units_room))))
  k_with "eval Call" => ((with_reducible show wpAny _ _ (eval (Expr.Call (Expr.Name _ _) _ [] _) (envOf _ _ _ _ _)) _ _ _); k_dflt (refine Call_ ?_))
  unfold Con
  k_fill
  intro mean mg mb dp un gd cn cs aa ccd cl outer A₀ base h₀ L m s Q E B F X9 N T9 hk hd hu hret
  obtain ⟨hp₀, gn₀, dr₀, tk₀, os₀⟩ := s
  refine wpAny_call ?_
  k_dflt k_enter
  k_steps
  refine nt_itemStr (by k_asm) (by lcg_sub) (by assumption) (by assumption) ?_
  intro x' t' hx'
  k_steps
  all_goals (rename Fr h₀ L _ _ => hF; rename News h₀ L _ _ => hN)
  exact hret _ _ _ _ _ _ _ _ hx' (by assumption) (by assumption) hF hN
end
-- NtIn2
section
open PySem PySem.W PySem.Spec PySem.Calls PyProof.Rows PySem.SeqAt
theorem yccIs_of {p : Int} (hp : 2 ≤ p ∧ p ≤ 8) {f g : Nat → Int} (ok : Ok3G p f) (r : RyccG p f g) : YccIs p (f 0) (f 1) (f 2) (g 0) (g 1) (g 2) := ⟨hp, ok.1, ok.2.1, ok.2.2, r.1, r.2.1, r.2.2⟩
theorem ycc_in {p : Int} (hp : 2 ≤ p ∧ p ≤ 8) {f g : Nat → Int} (ok : Ok3G p f) (r : RyccG p f g) : Ok3G p g := by
  have h := (yccIs_of hp ok r).ok
  obtain ⟨a1, a2, a3, a4, a5, a6, a7, a8, a9, a10, a11, a12, -⟩ := h
  exact ⟨⟨by omega, by omega⟩, ⟨by omega, by omega⟩, ⟨by omega, by omega⟩⟩

theorem nt_lenL {prog : Program} {w : World} {A : Around} {E : Value → Shared → Prop} {s : Shared} {h₀ : Heap} {L t : Addr} {news : Led} {os : List Value} {c J : Nat} {Q : Value → Shared → Prop} (N : News h₀ L s.heap news) (hm : (t, listOf os.toArray c) ∈ news) (hl : os.length = J) (hJ : J ≤ 4)
    (h : Q (.int (J : Int) (s.toks + 1)) { s with toks := s.toks + 1 + 1 }) : wpAny (model prog w) A (call (.builtin "len") [.ref t]) Q E s :=
  PyProof.Rows.len_list (PySem.IsL.isList (n := c) (N _ hm).1) (by rw [List.size_toArray, hl]; omega) (by rw [List.size_toArray, hl]; exact h)
end
-- NtTurn
section
open PySem PySem.W PySem.Spec PySem.Calls PyProof.Rows PySem.SeqAt PyProof.Rows.LCg
section
variable {prog : Program} {w : World} {A : Around} {E : Value → Shared → Prop} {s : Shared} {env : Env} {h₀ : Heap} {target : PySem.Expr} {body : List Stmt} {Q : Flow → Shared → Prop}
/-- the end of a turn: only one cell of the ledger, or names of the frame, may have turned -/
def TurnEnd (h₀ : Heap) (L : Addr) (I : Addr) (oI : Obj) (Inv : (Str → Option Value) → Led → Prop) (s₁ s₂ : Shared) : Prop := UnrEndW h₀ L s₁ [(I, oI)] Inv s₂
theorem items_ind {I : Addr} {n : Nat} (Inv : (Str → Option Value) → Led → Prop) (hI : ∀ m T, Inv m T → ∀ p ∈ T, p.1 ≠ I)
    (turn : ∀ i m T, i < n → Inv m T → ∀ t h tk oI, Fr h₀ env.locals h m → News h₀ env.locals h ((I, oI) :: T) →
      wpAny (model prog w) A (assign target env (.int (0 + (i : Int)) t)) (fun _ s₂ => wpAny (model prog w) A (execs body env) (UnrPostW h₀ env.locals { s with heap := h, toks := tk } [(I, oI)] Inv Q) E s₂) E { s with heap := h, toks := tk })
    (fin : ∀ m T h tk, Inv m T → Fr h₀ env.locals h m → News h₀ env.locals h T → Q .next { s with heap := h, toks := tk }) :
    ∀ (k i : Nat) m T, i + k = n → Inv m T → ItemsRest prog w A E h₀ env target body Q s [(I, "range_iterator")] [] (rngItems (0 + (i : Int)) k) m T
  | 0, i, m, T, h1, h2 => fun h tk F N => fin m T h tk h2 F N
  | k + 1, i, m, T, h1, h2 => by
    intro v h tk e F
    obtain ⟨t, rfl⟩ := e
    intro oI hoI N
    refine wpAny_mono (turn i m T (by omega) h2 t h tk oI F N) (fun _ s₂ x => wpAny_mono x (fun f s₃ y => ?_) fun _ _ e => e) fun _ _ e => e
    have fin' : UnrEndW h₀ env.locals { s with heap := h, toks := tk } [(I, oI)] Inv s₃ → UnrEndW h₀ env.locals { s with heap := h, toks := tk } [(I, oI)] (fun m' n' => SubL [] n' ∧ ItemsRest prog w A E h₀ env target body Q s [(I, "range_iterator")] [] (rngItems (0 + (i : Int) + 1) k) m' n') s₃ := by
      rintro ⟨h', tk', m', T', e, F', N', off, hv⟩
      refine ⟨h', tk', m', T', e, F', N', off, trivial, ?_⟩
      have q := items_ind Inv hI turn fin k (i + 1) m' T' (by omega) hv
      rw [show 0 + (i : Int) + 1 = 0 + ((i + 1 : Nat) : Int) by omega]
      exact q
    cases f with
    | ret v => exact y
    | brk => exact y
    | next => exact fin' y
    | cont => exact fin' y
theorem range_all {r : Addr} {b : Int} {t u v : Tok} {n : Nat} {m₀ : Str → Option Value} {news : Led} (Inv : (Str → Option Value) → Led → Prop)
    (hh : A.handled = none) (hr : IsRange s.heap r 0 b 1 t u v) (hsmall : Builtin.Range.small 0 b 1 = true) (hn : Builtin.Range.rangeSize 0 b 1 = (n : Int)) (F : Fr h₀ env.locals s.heap m₀) (N : News h₀ env.locals s.heap news) (h0 : Inv m₀ news)
    (turn : ∀ i I m T, i < n → Inv m T → (∀ p ∈ news, p.1 < I) → ∀ t h tk oI, Fr h₀ env.locals h m → News h₀ env.locals h ((I, oI) :: T) → (∀ p ∈ T, p.1 ≠ I) →
      wpAny (model prog w) A (assign target env (.int (0 + (i : Int)) t)) (fun _ s₂ => wpAny (model prog w) A (execs body env) (UnrPostW h₀ env.locals { s with heap := h, toks := tk } [(I, oI)] Inv Q) E s₂) E { s with heap := h, toks := tk })
    (fin : ∀ m T h tk, Inv m T → Fr h₀ env.locals h m → News h₀ env.locals h T → Q .next { s with heap := h, toks := tk }) :
    wpAny (model prog w) A (pyIter (.ref r)) (fun it s₂ => TurnsAt prog w A h₀ env target body Q E it s₂) E s :=
  rangeTurns hh hr hsmall hn F N fun I hI => by
    have q := items_ind (prog := prog) (w := w) (A := A) (E := E) (s := s) (env := env) (h₀ := h₀) (target := target) (body := body) (Q := Q) (I := I) (n := n) (fun m T => Inv m T ∧ ∀ p ∈ T, p.1 ≠ I) (fun m T x => x.2)
      (fun i m T hi hv t h tk oI F N => wpAny_mono (turn i I m T hi hv.1 hI t h tk oI F N hv.2) (fun _ s₂ x => wpAny_mono x (fun f s₃ y => by
        have up : UnrEndW h₀ env.locals { s with heap := h, toks := tk } [(I, oI)] Inv s₃ → UnrEndW h₀ env.locals { s with heap := h, toks := tk } [(I, oI)] (fun m T => Inv m T ∧ ∀ p ∈ T, p.1 ≠ I) s₃ := by
          rintro ⟨h', tk', m', T', e, F', N', off, hv⟩
          exact ⟨h', tk', m', T', e, F', N', off, hv, fun p hp => off p hp _ (List.mem_singleton.mpr rfl)⟩
        cases f with
        | ret v => exact y
        | brk => exact y
        | next => exact up y
        | cont => exact up y) fun _ _ e => e) fun _ _ e => e)
      (fun m T h tk hv F N => fin m T h tk hv.1 F N) n 0 m₀ news (Nat.zero_add n) ⟨h0, fun p hp => Nat.ne_of_lt (hI p hp)⟩
    simpa using q
theorem turn_end {I : Addr} {oI : Obj} {Inv : (Str → Option Value) → Led → Prop} {h' : Heap} {tk : Nat} {m' : Str → Option Value} {all T : Led} {s₁ : Shared} (F : Fr h₀ env.locals h' m') (N : News h₀ env.locals h' all) (hI : (I, oI) ∈ all) (hT : Sub T all) (off : ∀ p ∈ T, p.1 ≠ I) (r : Inv m' T) :
    UnrEndW h₀ env.locals s₁ [(I, oI)] Inv { s₁ with heap := h', toks := tk } := ⟨h', tk, m', T, rfl, F, fun p hp => by
      rcases List.mem_cons.mp hp with rfl | hp
      · exact N _ hI
      · exact N _ (hT _ hp), fun p hp q hq e => off p hp (by rw [e, List.mem_singleton.mp hq]), r⟩
end
/-- names of the frame that a loop turns -/
abbrev over3 (a b c : Str) (va vb vc : Option Value) (m : Str → Option Value) : Str → Option Value := fun y => if y = c then vc else if y = b then vb else if y = a then va else m y
theorem over_a {a b c : Str} {va vb vc v : Option Value} {m : Str → Option Value} (h1 : a ≠ b) (h2 : a ≠ c) : (fun y => if y = a then v else over3 a b c va vb vc m y) = over3 a b c v vb vc m := by
  funext y
  by_cases e : y = a
  · subst e; simp [over3, h1, h2]
  · simp [over3, e]
theorem over_b {a b c : Str} {va vb vc v : Option Value} {m : Str → Option Value} (h1 : b ≠ c) : (fun y => if y = b then v else over3 a b c va vb vc m y) = over3 a b c va v vc m := by
  funext y
  by_cases e : y = b
  · subst e; simp [over3, h1]
  · simp [over3, e]
theorem over_c {a b c : Str} {va vb vc v : Option Value} {m : Str → Option Value} : (fun y => if y = c then v else over3 a b c va vb vc m y) = over3 a b c va vb v m := by
  funext y
  by_cases e : y = c
  · subst e; simp [over3]
  · simp [over3, e]
theorem over_0 {a b c : Str} {m : Str → Option Value} : m = over3 a b c (m a) (m b) (m c) m := by
  funext y
  simp only [over3]
  split
  · next e => rw [e]
  split
  · next e => rw [e]
  split
  · next e => rw [e]
  rfl
theorem Sub.both {T all : Led} {q : Addr × Obj} (h : q ∈ all) (s : Sub T all) : Sub (q :: T) all := fun z hz => by
  rcases List.mem_cons.mp hz with rfl | hz
  · exact h
  · exact s _ hz
section
variable {prog : Program} {w : World} {A : Around} {s : Shared} {h₀ : Heap} {L : Addr} {m : Str → Option Value} {env : Env}
theorem crest_ind {elt : PySem.Expr} {x : Str} {scope : Scope} {cl : List (Str × Addr)} {S : Led → Prop} {P : Nat → Value → Prop} {Fin : List Value → Led → Prop} {n : Nat} (V : Nat → List Value → Led → Prop)
    (turn : ∀ i ys T, i < n → V i ys T → ∀ v I oI C oC D m₂ h tk (E' : Value → Shared → Prop), P i v → NsObj oC m₂ → m₂ x = some v → Fr h₀ L h m → News h₀ L h ((I, oI) :: (C, oC) :: (D, lst ys) :: T) → Off3 I C D T → ((@Ne Nat I C) ∧ (@Ne Nat I D) ∧ (@Ne Nat C D)) →
      wpAny (model prog w) A (eval elt (compEnvC scope cl C env)) (CompEnd h₀ L m { s with heap := h, toks := tk } I oI C oC D (lst ys) S (fun y T' => V (i + 1) (ys ++ [y]) T')) E' { s with heap := h, toks := tk })
    (fin : ∀ ys T, V n ys T → Fin ys T) : ∀ (k i : Nat) (ys : List Value) (T : Led), i + k = n → V i ys T → CompRest prog w A h₀ L m env elt x scope cl s S P Fin k i ys T
  | 0, i, ys, T, h1, h2 => CompRest.zero (fin _ _ ((by omega : i = n) ▸ h2))
  | k + 1, i, ys, T, h1, h2 => CompRest.succ fun v I oI C oC D m₂ h tk E' hv hC hx F N off ne => wpAny_mono (turn i ys T (by omega) h2 v I oI C oC D m₂ h tk E' hv hC hx F N off ne) (fun y s₂ hr => by
      obtain ⟨h', tk', news', e, F', N', off', hS, r⟩ := hr
      exact ⟨h', tk', news', e, F', N', off', hS, crest_ind V turn fin k (i + 1) (ys ++ [y]) news' (by omega) r⟩) fun _ _ e => e
end
end
-- NtKind
section
open PySem PySem.W PySem.Spec PySem.Calls PyProof.Rows PySem.SeqAt PyProof.Rows.LCg
inductive Kind : Str → Nat → Str → Prop
  | rgb : Kind (Str.ofString "rgb") 3 (Str.ofString "ycc")
  | cmyk : Kind (Str.ofString "cmyk") 4 (Str.ofString "ycck")
  | grey : Kind (Str.ofString "grey") 1 (Str.ofString "grey")
theorem Kind.of {x : Str} (h : x = Str.ofString "rgb" ∨ x = Str.ofString "rgb" ∨ x = Str.ofString "cmyk" ∨ x = Str.ofString "grey") : ∃ K due, Kind x K due := by
  rcases h with rfl | rfl | rfl | rfl
  · exact ⟨_, _, .rgb⟩
  · exact ⟨_, _, .rgb⟩
  · exact ⟨_, _, .cmyk⟩
  · exact ⟨_, _, .grey⟩
theorem Kind.len {x due : Str} {K : Nat} (h : Kind x K due) : 1 ≤ K ∧ K ≤ 4 := by cases h <;> decide
/-- the samples of the picture turned, and turned back -/
structure RelT (x : Str) (p : Int) (f g : Nat → Int) : Prop where
  rgb : x = Str.ofString "rgb" → RyccG p f g
  cmyk : x = Str.ofString "cmyk" → RycckG p f g
  grey : x = Str.ofString "grey" → g 0 = f 0
structure RelB (x : Str) (p : Int) (f g : Nat → Int) : Prop where
  rgb : x = Str.ofString "rgb" → RrgbG p f g
  cmyk : x = Str.ofString "cmyk" → RcmykG p f g
  grey : x = Str.ofString "grey" → g 0 = f 0
theorem Kind.ok {x due : Str} {K : Nat} (h : Kind x K due) : PyData.strOk x = true ∧ PyData.strOk due = true := by cases h <;> exact ⟨by decide +kernel, by decide +kernel⟩
theorem kind_many {x due : Str} {K : Nat} (h : Kind x K due) : Spec.lookup (.str x) [(.str (Str.ofString "rgb"), .int 3), (.str (Str.ofString "cmyk"), .int 4), (.str (Str.ofString "grey"), .int 1)] = some (PyData.int (K : Int)) := by cases h <;> rfl
theorem kind_due {x due : Str} {K : Nat} (h : Kind x K due) : Spec.lookup (.str x) [(.str (Str.ofString "rgb"), .str (Str.ofString "ycc")), (.str (Str.ofString "cmyk"), .str (Str.ofString "ycck")), (.str (Str.ofString "grey"), .str (Str.ofString "grey"))] = some (PyData.str due) := by cases h <;> rfl
theorem ne_rc : Str.ofString "rgb" ≠ Str.ofString "cmyk" := by decide +kernel
theorem ne_rg : Str.ofString "rgb" ≠ Str.ofString "grey" := by decide +kernel
theorem ne_cg : Str.ofString "cmyk" ≠ Str.ofString "grey" := by decide +kernel
theorem RelT.same {x due : Str} {K : Nat} {p : Int} {f g g' : Nat → Int} (hk : Kind x K due) (r : RelT x p f g) (r' : RelT x p f g') : ∀ i, i < K → g i = g' i := by
  intro i hi
  cases hk with
  | rgb =>
    obtain ⟨a, b, c⟩ := r.rgb rfl
    obtain ⟨a', b', c'⟩ := r'.rgb rfl
    have : i = 0 ∨ i = 1 ∨ i = 2 := by omega
    rcases this with rfl | rfl | rfl
    · rw [a, a']
    · rw [b, b']
    · rw [c, c']
  | cmyk =>
    obtain ⟨⟨a, b, c⟩, d⟩ := r.cmyk rfl
    obtain ⟨⟨a', b', c'⟩, d'⟩ := r'.cmyk rfl
    have : i = 0 ∨ i = 1 ∨ i = 2 ∨ i = 3 := by omega
    rcases this with rfl | rfl | rfl | rfl
    · rw [a, a']
    · rw [b, b']
    · rw [c, c']
    · rw [d, d']
  | grey =>
    have : i = 0 := by omega
    subst this
    rw [r.grey rfl, r'.grey rfl]
theorem rel_in {x due : Str} {K : Nat} {p : Int} {f g : Nat → Int} (hk : Kind x K due) (hp : 2 ≤ p ∧ p ≤ 8) (ok : Ok3G p f) (r : RelT x p f g) : x ≠ Str.ofString "grey" → Ok3G p g := by
  intro hx
  cases hk with
  | rgb => exact ycc_in hp ok (r.rgb rfl)
  | cmyk =>
    obtain ⟨⟨a0, a1⟩, ⟨b0, b1⟩, ⟨c0, c1⟩⟩ := ok
    obtain ⟨⟨a, b, c⟩, _⟩ := r.cmyk rfl
    exact ycc_in hp (f := fun i => 2 * mid p - 1 - f i) ⟨⟨by dsimp only; omega, by dsimp only; omega⟩, ⟨by dsimp only; omega, by dsimp only; omega⟩, ⟨by dsimp only; omega, by dsimp only; omega⟩⟩ ⟨a, b, c⟩
  | grey => exact absurd rfl hx
theorem rel_near {x due : Str} {K : Nat} {p : Int} {f g b : Nat → Int} (hk : Kind x K due) (hp : 2 ≤ p ∧ p ≤ 8) (ok : Ok3G p f) (r : RelT x p f g) (s : RelB x p g b) : ∀ i, i < K → -1 ≤ b i - f i ∧ b i - f i ≤ 1 := by
  intro i hi
  cases hk with
  | rgb =>
    obtain ⟨a1, a2, a3⟩ := s.rgb rfl
    have q := (yccIs_of hp ok (r.rgb rfl)).back a1 a2 a3
    have : i = 0 ∨ i = 1 ∨ i = 2 := by omega
    rcases this with rfl | rfl | rfl
    · exact ⟨q.r1, q.r2⟩
    · exact ⟨q.g1, q.g2⟩
    · exact ⟨q.b1, q.b2⟩
  | cmyk =>
    obtain ⟨⟨a0, a1⟩, ⟨b0, b1⟩, ⟨c0, c1⟩⟩ := ok
    obtain ⟨⟨a, b', c⟩, d⟩ := r.cmyk rfl
    obtain ⟨⟨u1, u2, u3⟩, u4⟩ := s.cmyk rfl
    have q := (yccIs_of hp (f := fun i => 2 * mid p - 1 - f i) ⟨⟨by dsimp only; omega, by dsimp only; omega⟩, ⟨by dsimp only; omega, by dsimp only; omega⟩, ⟨by dsimp only; omega, by dsimp only; omega⟩⟩ ⟨a, b', c⟩).back u1 u2 u3
    obtain ⟨q1, q2, q3, q4, q5, q6, -⟩ := q
    have : i = 0 ∨ i = 1 ∨ i = 2 ∨ i = 3 := by omega
    rcases this with rfl | rfl | rfl | rfl
    · exact ⟨by omega, by omega⟩
    · exact ⟨by omega, by omega⟩
    · exact ⟨by omega, by omega⟩
    · rw [u4, d]; exact ⟨by omega, by omega⟩
  | grey =>
    have : i = 0 := by omega
    subst this
    rw [s.grey rfl, r.grey rfl]
    exact ⟨by omega, by omega⟩
theorem c_due (w : World) (news : Led) (x due : Str) (K : Nat) (t : Tok) (hk : Kind x K due) :
    Con w 261 [.str x t] news 20 (fun h₀ L m Q => ∀ (t' : Tok) (h' : Heap) (tk' : Nat), Fr h₀ L h' m → News h₀ L h' news → Q (.str due t') h' tk') := by
  cases hk
  · exact c_fm_rgb w news t
  · exact c_fm_cmyk w news t
  · exact c_fm_grey w news t
abbrev RetPic (w : World) (news : Led) (due : Str) (p : Int) (K : Nat) (R : (Nat → Nat → Int) → Prop) : Heap → Addr → (Str → Option Value) → (Value → Heap → Nat → Prop) → Prop :=
  fun h₀ L m Q => ∀ (Y ql : Addr) (qs : List Value) (o : Nat → Nat → Int) (c : Nat) (T : Led) (h' : Heap) (tk' : Nat), R o →
     PicIn w T Y due p ql → (ql, listOf qs.toArray c) ∈ T → qs.length = K → Planes w T o qs → Sub news T → Fr h₀ L h' m → News h₀ L h' T → Q (.ref Y) h' tk'
theorem c_greyG (w : World) (news : Led) (X pl : Addr) (p : Int) (c : Nat) (t : Tok) (v₀ : Value) (ps : List Value) (d : Nat → Nat → Int) (hX : PicIn w news X (Str.ofString "grey") p pl) (hpl : (pl, listOf (v₀ :: ps).toArray c) ∈ news) (hl : (v₀ :: ps).length = 1) (hP : Planes w news d (v₀ :: ps)) :
    Con w 254 [.ref X, .str (Str.ofString "grey") t] news 40 (RetPic w news (Str.ofString "grey") p 1 fun o => ∀ q, q < 4 → o 0 q = d 0 q) := by
  have : ps = [] := by cases ps with | nil => rfl | cons a b => simp at hl
  subst this
  obtain ⟨P0, rfl, hP0⟩ := hP 0 _ rfl
  refine (c_tpic_grey_grey w news X pl P0 p c t _ _ _ _ hX hpl hP0).mono fun h₀ L m Q r => ?_
  intro Y ql Q0 c' T h' tk' pic mq pln s F N
  refine r Y ql [.ref Q0] (fun _ q => d 0 q) c' T h' tk' (fun q _ => rfl) pic mq rfl (fun i v e => ?_) s F N
  cases i with
  | zero => cases e; exact ⟨_, rfl, pln⟩
  | succ i => cases e
theorem c_turn (w : World) (news : Led) (x due : Str) (K : Nat) (X pl : Addr) (p : Int) (c : Nat) (t : Tok) (v₀ : Value) (ps : List Value) (d : Nat → Nat → Int) (hk : Kind x K due) (hX : PicIn w news X x p pl) (hpl : (pl, listOf (v₀ :: ps).toArray c) ∈ news) (hl : (v₀ :: ps).length = K) (hP : Planes w news d (v₀ :: ps)) (hp : 2 ≤ p ∧ p ≤ 8) (ok : ∀ q, Ok3G p fun i => d i q) :
    Con w 254 [.ref X, .str due t] news 40 (RetPic w news due p K fun o => ∀ q, q < 4 → RelT x p (fun i => d i q) fun j => o j q) := by
  cases hk with
  | rgb =>
    exact (c_tpg_rgb_ycc w news X pl p c t v₀ ps d hX hpl hl hP hp ok).mono fun h₀ L m Q r Y ql qs o c T h' tk' R => r Y ql qs o c T h' tk' fun q hq => ⟨fun _ => R q hq, fun e => absurd e ne_rc, fun e => absurd e ne_rg⟩
  | cmyk =>
    exact (c_tpg_cmyk_ycck w news X pl p c t v₀ ps d hX hpl hl hP hp ok).mono fun h₀ L m Q r Y ql qs o c T h' tk' R => r Y ql qs o c T h' tk' fun q hq => ⟨fun e => absurd e.symm ne_rc, fun _ => R q hq, fun e => absurd e ne_cg⟩
  | grey =>
    exact (c_greyG w news X pl p c t v₀ ps d hX hpl hl hP).mono fun h₀ L m Q r Y ql qs o c T h' tk' R => r Y ql qs o c T h' tk' fun q hq => ⟨fun e => absurd e.symm ne_rg, fun e => absurd e.symm ne_cg, fun _ => R q hq⟩
theorem c_back (w : World) (news : Led) (x due : Str) (K : Nat) (X pl : Addr) (p : Int) (c : Nat) (t : Tok) (v₀ : Value) (ps : List Value) (d : Nat → Nat → Int) (hk : Kind x K due) (hX : PicIn w news X due p pl) (hpl : (pl, listOf (v₀ :: ps).toArray c) ∈ news) (hl : (v₀ :: ps).length = K) (hP : Planes w news d (v₀ :: ps)) (hp : 2 ≤ p ∧ p ≤ 8) (ok : x ≠ Str.ofString "grey" → ∀ q, Ok3G p fun i => d i q) :
    Con w 254 [.ref X, .str x t] news 40 (RetPic w news x p K fun o => ∀ q, q < 4 → RelB x p (fun i => d i q) fun j => o j q) := by
  cases hk with
  | rgb =>
    exact (c_tpg_ycc_rgb w news X pl p c t v₀ ps d hX hpl hl hP hp (ok ne_rg)).mono fun h₀ L m Q r Y ql qs o c T h' tk' R => r Y ql qs o c T h' tk' fun q hq => ⟨fun _ => R q hq, fun e => absurd e ne_rc, fun e => absurd e ne_rg⟩
  | cmyk =>
    exact (c_tpg_ycck_cmyk w news X pl p c t v₀ ps d hX hpl hl hP hp (ok ne_cg)).mono fun h₀ L m Q r Y ql qs o c T h' tk' R => r Y ql qs o c T h' tk' fun q hq => ⟨fun e => absurd e.symm ne_rc, fun _ => R q hq, fun e => absurd e ne_cg⟩
  | grey =>
    exact (c_greyG w news X pl p c t v₀ ps d hX hpl hl hP).mono fun h₀ L m Q r Y ql qs o c T h' tk' R => r Y ql qs o c T h' tk' fun q hq => ⟨fun e => absurd e.symm ne_rg, fun e => absurd e.symm ne_cg, fun _ => R q hq⟩
theorem c_lawt (w : World) (news : Led) (x due : Str) (K : Nat) (l : Addr) (f : Nat → Int) (p : Int) (t t1 t2 t3 t4 t5 : Tok) (c : Nat) (hk : Kind x K due) (hm : (l, listOf #[.int (f 0) t1, .int (f 1) t2, .int (f 2) t3, .int (f 3) t4] c) ∈ news) (hp : 2 ≤ p ∧ p ≤ 8) (ok : Ok3G p f) :
    Con w 311 [.str x t, .ref l, .int p t5] news 20 (fun h₀ L m Q => ∀ (D : Addr) (ys : List Value) (g : Nat → Int) (c : Nat) (h' : Heap) (tk' : Nat), RelT x p f g → ys.length = K → Ints g ys → Fr h₀ L h' m → News h₀ L h' ((D, listOf ys.toArray c) :: news) → LCg.Off1 D news → Q (.ref D) h' tk') := by
  cases hk with
  | rgb =>
    exact (c_law_rgb w news l _ _ _ _ p t t1 t2 t3 t4 t5 c hm hp ok.1 ok.2.1 ok.2.2).mono fun h₀ L m Q r D y cb cr ty tb tr c h' tk' R F N o =>
      r D [.int y ty, .int cb tb, .int cr tr] (of4 y cb cr 0) c h' tk' ⟨fun _ => R, fun e => absurd e ne_rc, fun e => absurd e ne_rg⟩ rfl (ints_mk (ints_mk (ints_mk ints_nil))) F N o
  | cmyk =>
    exact (c_law_cmyk w news l _ _ _ _ p t t1 t2 t3 t4 t5 c hm hp ok.1 ok.2.1 ok.2.2).mono fun h₀ L m Q r D y cb cr ty tb tr tk c h' tk' R F N o =>
      r D [.int y ty, .int cb tb, .int cr tr, .int (f 3) tk] (of4 y cb cr (f 3)) c h' tk' ⟨fun e => absurd e.symm ne_rc, fun _ => R, fun e => absurd e ne_cg⟩ rfl (ints_mk (ints_mk (ints_mk (ints_mk ints_nil)))) F N o
  | grey =>
    exact (c_law_grey w news l _ _ _ _ p t t1 t2 t3 t4 t5 c hm).mono fun h₀ L m Q r D ty c h' tk' F N o =>
      r D [.int (f 0) ty] (of4 (f 0) 0 0 0) c h' tk' ⟨fun e => absurd e.symm ne_rg, fun e => absurd e.symm ne_cg, fun _ => rfl⟩ rfl (ints_mk ints_nil) F N o
theorem c_ref (w : World) (news : Led) (x due y : Str) (K : Nat) (X pl : Addr) (p : Int) (t : Tok) (hk : Kind x K due) (hX : PicIn w news X x p pl) (hy : ((x != Str.ofString "cmyk") = true ∧ y = Str.ofString "ycck") ∨ ((x != Str.ofString "cmyk") = false ∧ y = Str.ofString "ycc")) : ConR w 318 [.ref X, .str y t] news 60 := by
  cases hk with
  | rgb =>
    rcases hy with ⟨_, rfl⟩ | ⟨h, _⟩
    · exact c_refused_rgb w news X pl p t hX
    · exact absurd h (by decide +kernel)
  | cmyk =>
    rcases hy with ⟨h, _⟩ | ⟨_, rfl⟩
    · exact absurd h (by decide +kernel)
    · exact c_refused_cmyk w news X pl p t hX
  | grey =>
    rcases hy with ⟨_, rfl⟩ | ⟨h, _⟩
    · exact c_refused_grey w news X pl p t hX
    · exact absurd h (by decide +kernel)
theorem ConR.use {w : World} {f : Addr} {vs : List Value} {news : Led} {dN : Nat}
    {mean : ExcName → Option Value} {mg mb : Str → Option Value} {dp un : Nat} {gd : Option (List Code)} {cn : Str} {cs : Scope} {a : Addr} {ccd : Value} {cl : List (Str × Addr)} {outer : List Env} {A₀ : Around} {base h₀ : Heap} {L : Addr} {m : Str → Option Value} {s : Shared} {Q E : Value → Shared → Prop}
    (C : ConR w f vs news dN) (B : Below A₀ base outer h₀) (F : Fr h₀ L s.heap m) (X : (Mine.pre.heap_1 w.params).In h₀) (N : News h₀ L s.heap news) (T : Top Mine.pre.view_1 (looseW Mine.pre.view_1 [Str.ofString "HALF"]) mean mg mb h₀) (hk : cs.kind = .function) (hd : dp + dN < recursionLimit) (hu : un + 8 * dN < cLine)
    (XB : (Mine.pre.heap_1 w.params).In base) (TB : Top Mine.pre.view_1 (looseW Mine.pre.view_1 [Str.ofString "HALF"]) mean mg mb base) (ret : ∀ (h' : Heap) (tk' : Nat), (∀ b o, base.get? b = some o → h'.get? b = some o) → Q (.bool true) { s with heap := h', toks := tk' }) :
    wpAny (model Challenge.rw_nt0553_01.row.prog w) (ktrTop dp un gd cn cs L a ccd cl outer) (call (.ref f) vs) Q E s :=
  C mean mg mb dp un gd cn cs a ccd cl outer A₀ base h₀ L m s Q E B F X N T hk hd hu XB TB ret
theorem Kind.three {x due : Str} {K : Nat} (h : Kind x K due) (e : x = Str.ofString "rgb") : K = 3 := by
  cases h with
  | rgb => rfl
  | cmyk => exact absurd e.symm ne_rc
  | grey => exact absurd e.symm ne_rg
theorem one_of {α : Type} {l : List α} (h : l.length = 1) : ∃ a, l = [a] := by
  match l, h with
  | [a], _ => exact ⟨a, rfl⟩
-- an item at a place that is not written
/-- a row of four samples -/
def RowAt (T : Led) (l : Addr) (f : Nat → Int) : Prop := ∃ (t0 t1 t2 t3 : Tok) (n : Nat), (l, listOf #[.int (f 0) t0, .int (f 1) t1, .int (f 2) t2, .int (f 3) t3] n) ∈ T
theorem nt_item4 {prog : Program} {w : World} {A : Around} {E : Value → Shared → Prop} {s : Shared} {h₀ : Heap} {L l : Addr} {news T : Led} {f : Nat → Int} {i : Nat} {u : Tok} {value slice : PySem.Expr} {Q : Value → Shared → Prop} (hr : RowAt T l f) (N : News h₀ L s.heap news) (sub : Sub T news) (hi : i < 4)
    (h : ∀ t, Q (.int (f i) t) s)
    (hs : subscripted slice false (.ref l) (.int (0 + (i : Int)) u) = operate [.ref l, .int (0 + (i : Int)) u] (getItem (.ref l) (.int (0 + (i : Int)) u)) := by with_unfolding_all rfl) :
    wpAny (model prog w) A (subscriptTail value slice (.ref l) (.int (0 + (i : Int)) u)) Q E s := by
  obtain ⟨t0, t1, t2, t3, n, hm⟩ := hr
  have hm := sub _ hm
  have : i = 0 ∨ i = 1 ∨ i = 2 ∨ i = 3 := by omega
  rcases this with rfl | rfl | rfl | rfl
  · exact nt_item N hm (by decide) (by decide) rfl (h _) hs
  · exact nt_item N hm (by decide) (by decide) rfl (h _) hs
  · exact nt_item N hm (by decide) (by decide) rfl (h _) hs
  · exact nt_item N hm (by decide) (by decide) rfl (h _) hs
/-- the rows of the samples: the list of four lists -/
def RowsIn (T : Led) (l : Addr) (d : Nat → Nat → Int) : Prop := ∃ (R0 R1 R2 R3 : Addr) (c : Nat), (l, listOf #[.ref R0, .ref R1, .ref R2, .ref R3] c) ∈ T ∧ RowAt T R0 (fun i => d i 0) ∧ RowAt T R1 (fun i => d i 1) ∧ RowAt T R2 (fun i => d i 2) ∧ RowAt T R3 (fun i => d i 3)
theorem RowAt.sub {T T' : Led} {l : Addr} {f : Nat → Int} (s : Sub T T') (h : RowAt T l f) : RowAt T' l f := by
  obtain ⟨t0, t1, t2, t3, n, hm⟩ := h
  exact ⟨t0, t1, t2, t3, n, s _ hm⟩
theorem RowsIn.sub {T T' : Led} {l : Addr} {d : Nat → Nat → Int} (s : Sub T T') (h : RowsIn T l d) : RowsIn T' l d := by
  obtain ⟨R0, R1, R2, R3, c, m, h0, h1, h2, h3⟩ := h
  exact ⟨R0, R1, R2, R3, c, s _ m, h0.sub s, h1.sub s, h2.sub s, h3.sub s⟩
theorem nt_row {prog : Program} {w : World} {A : Around} {E : Value → Shared → Prop} {s : Shared} {h₀ : Heap} {L l : Addr} {news T : Led} {d : Nat → Nat → Int} {q : Nat} {u : Tok} {value slice : PySem.Expr} {Q : Value → Shared → Prop} (hR : RowsIn T l d) (N : News h₀ L s.heap news) (sub : Sub T news) (hq : q < 4)
    (h : ∀ r, RowAt T r (fun i => d i q) → Q (.ref r) s)
    (hs : subscripted slice false (.ref l) (.int (0 + (q : Int)) u) = operate [.ref l, .int (0 + (q : Int)) u] (getItem (.ref l) (.int (0 + (q : Int)) u)) := by with_unfolding_all rfl) :
    wpAny (model prog w) A (subscriptTail value slice (.ref l) (.int (0 + (q : Int)) u)) Q E s := by
  obtain ⟨R0, R1, R2, R3, c, m, h0, h1, h2, h3⟩ := hR
  have m0 := sub _ m
  have : q = 0 ∨ q = 1 ∨ q = 2 ∨ q = 3 := by omega
  rcases this with rfl | rfl | rfl | rfl
  · exact nt_item N m0 (by decide) (by decide) rfl (h _ h0) hs
  · exact nt_item N m0 (by decide) (by decide) rfl (h _ h1) hs
  · exact nt_item N m0 (by decide) (by decide) rfl (h _ h2) hs
  · exact nt_item N m0 (by decide) (by decide) rfl (h _ h3) hs
theorem of4_at (f : Nat → Int) {q : Nat} (hq : q < 4) : of4 (f 0) (f 1) (f 2) (f 3) q = f q := by
  have : q = 0 ∨ q = 1 ∨ q = 2 ∨ q = 3 := by omega
  rcases this with rfl | rfl | rfl | rfl <;> rfl
theorem nt_planeAt {prog : Program} {w : World} {A : Around} {E : Value → Shared → Prop} {s : Shared} {h₀ : Heap} {L l : Addr} {news T : Led} {d : Nat → Nat → Int} {qs : List Value} {c i : Nat} {u : Tok} {value slice : PySem.Expr} {Q : Value → Shared → Prop} (hm : (l, listOf qs.toArray c) ∈ T) (hP : Planes w T d qs) (N : News h₀ L s.heap news) (sub : Sub T news) (hi : i < qs.length) (hl : qs.length ≤ 4)
    (h : ∀ P, PlaneIn w T P (d i 0) (d i 1) (d i 2) (d i 3) → Q (.ref P) s)
    (hs : subscripted slice false (.ref l) (.int (0 + (i : Int)) u) = operate [.ref l, .int (0 + (i : Int)) u] (getItem (.ref l) (.int (0 + (i : Int)) u)) := by with_unfolding_all rfl) :
    wpAny (model prog w) A (subscriptTail value slice (.ref l) (.int (0 + (i : Int)) u)) Q E s := by
  obtain ⟨P, e, hP'⟩ := hP i qs[i] (List.getElem?_eq_getElem hi)
  exact nt_item N (sub _ hm) (by omega) (by omega) (by rw [nth_eq]; simp [List.getElem?_eq_getElem hi]; exact e) (h P hP') hs
theorem near_all {x due : Str} {K : Nat} {p : Int} {d o1 o2 : Nat → Nat → Int} (hk : Kind x K due) (hp : 2 ≤ p ∧ p ≤ 8) (hok : ∀ q, Ok3G p fun i => d i q) (r1 : ∀ q, q < 4 → RelT x p (fun i => d i q) fun j => o1 j q) (r2 : ∀ q, q < 4 → RelB x p (fun i => o1 i (q % 4)) fun j => o2 j q)
    (i : Nat) (hi : i < K) (y : Nat) (hy : y < 2) (z : Nat) (hz : z < 2) : -1 ≤ of4 (o2 i 0) (o2 i 1) (o2 i 2) (o2 i 3) (2 * y + z) - of4 (d i 0) (d i 1) (d i 2) (d i 3) (2 * y + z) ∧ of4 (o2 i 0) (o2 i 1) (o2 i 2) (o2 i 3) (2 * y + z) - of4 (d i 0) (d i 1) (d i 2) (d i 3) (2 * y + z) ≤ 1 := by
  have hq : 2 * y + z < 4 := by omega
  rw [of4_at (o2 i) hq, of4_at (d i) hq]
  have h2 := r2 _ hq
  rw [Nat.mod_eq_of_lt hq] at h2
  exact rel_near hk hp (hok _) (r1 _ hq) h2 i hi
/-- a row of a plane, and its sample -/
theorem nt_two {prog : Program} {w : World} {A : Around} {E : Value → Shared → Prop} {s : Shared} {h₀ : Heap} {L l : Addr} {news : Led} {r0 r1 : Addr} {a b c d : Int} {ta tb tc td : Tok} {n n0 n1 : Nat} {k : Int} {u : Tok} {value slice : PySem.Expr} {Q : Value → Shared → Prop} (N : News h₀ L s.heap news)
    (hm : (l, listOf #[.ref r0, .ref r1] n) ∈ news) (h0 : (r0, listOf #[.int a ta, .int b tb] n0) ∈ news) (h1 : (r1, listOf #[.int c tc, .int d td] n1) ∈ news) (y : Nat) (hk : k = (y : Int)) (hy : y < 2)
    (h : ∀ r t t' n, (r, listOf #[.int (of4 a b c d (2 * y)) t, .int (of4 a b c d (2 * y + 1)) t'] n) ∈ news → Q (.ref r) s)
    (hs : subscripted slice false (.ref l) (.int k u) = operate [.ref l, .int k u] (getItem (.ref l) (.int k u)) := by with_unfolding_all rfl) :
    wpAny (model prog w) A (subscriptTail value slice (.ref l) (.int k u)) Q E s := by
  subst hk
  have : y = 0 ∨ y = 1 := by omega
  rcases this with rfl | rfl
  · exact nt_item N hm (by decide) (by decide) rfl (h _ _ _ _ h0) hs
  · exact nt_item N hm (by decide) (by decide) rfl (h _ _ _ _ h1) hs
theorem nt_sample {prog : Program} {w : World} {A : Around} {E : Value → Shared → Prop} {s : Shared} {h₀ : Heap} {L l : Addr} {news : Led} {a b c d : Int} {t t' : Tok} {n : Nat} {k : Int} {u : Tok} {value slice : PySem.Expr} {Q : Value → Shared → Prop} (y x : Nat) (N : News h₀ L s.heap news)
    (hm : (l, listOf #[.int (of4 a b c d (2 * y)) t, .int (of4 a b c d (2 * y + 1)) t'] n) ∈ news) (hk : k = (x : Int)) (hx : x < 2)
    (h : ∀ t, Q (.int (of4 a b c d (2 * y + x)) t) s)
    (hs : subscripted slice false (.ref l) (.int k u) = operate [.ref l, .int k u] (getItem (.ref l) (.int k u)) := by with_unfolding_all rfl) :
    wpAny (model prog w) A (subscriptTail value slice (.ref l) (.int k u)) Q E s := by
  subst hk
  have : x = 0 ∨ x = 1 := by omega
  rcases this with rfl | rfl
  · exact nt_item N hm (by decide) (by decide) rfl (h _) hs
  · exact nt_item N hm (by decide) (by decide) rfl (h _) hs
-- two lists of ints
def datas (f : Nat → Int) : Nat → List PyData
  | 0 => []
  | n + 1 => .int (f 0) :: datas (fun i => f (i + 1)) n
theorem reads_ints (h : Heap) : ∀ (ys : List Value) (f : Nat → Int), Ints f ys → ReadsAll h ys (datas f ys.length) []
  | [], _, _ => ReadsAll.nil
  | y :: ys, f, hi => by
    obtain ⟨t, rfl⟩ := hi 0 y rfl
    exact ReadsAll.cons (Reads.int _ _) (reads_ints h ys (fun i => f (i + 1)) fun i z e => hi (i + 1) z e)
theorem datas_ext : ∀ (n : Nat) (f g : Nat → Int), (∀ i, i < n → f i = g i) → datas f n = datas g n
  | 0, _, _, _ => rfl
  | n + 1, f, g, h => by
    show _ :: _ = _ :: _
    rw [h 0 (Nat.succ_pos _), datas_ext n _ _ fun i hi => h (i + 1) (Nat.succ_lt_succ hi)]
theorem ok_datas {K : Nat} (f : Nat → Int) (hK : K ≤ 4) : shaped (.list (datas f K)) = true ∧ noMix (.list (datas f K)) (.list (datas f K)) = true := by
  have : K = 0 ∨ K = 1 ∨ K = 2 ∨ K = 3 ∨ K = 4 := by omega
  rcases this with rfl | rfl | rfl | rfl | rfl <;> exact ⟨by simp [datas, shaped, PyData.canLay0, PyData.canLayAll0, PyData.depth, PyData.depthAll], by simp [datas, noMix, noMixAll]⟩
theorem ne_ints {prog : Program} {w : World} {A : Around} {E : Value → Shared → Prop} {s : Shared} {h₀ : Heap} {L a b : Addr} {news : Led} {xs ys : List Value} {c d K : Nat} {f g : Nat → Int} {Q : Value → Shared → Prop} (N : News h₀ L s.heap news) (ha : (a, listOf xs.toArray c) ∈ news) (hb : (b, listOf ys.toArray d) ∈ news)
    (hx : Ints f xs) (hy : Ints g ys) (lx : xs.length = K) (ly : ys.length = K) (hK : K ≤ 4) (e : ∀ i, i < K → f i = g i) (hu : A.units + 64 < cLine) (h : Q (.bool false) s) : wpAny (model prog w) A (compareOp .NotEq (.ref a) (.ref b)) Q E s := by
  have rx := reads_ints s.heap xs f hx
  have ry := reads_ints s.heap ys g hy
  rw [lx] at rx
  rw [ly] at ry
  exact nt_ne (nt_rlist N ha (by simpa using rx)) (nt_rlist N hb (by simpa using ry)) (congrArg PyData.list (datas_ext K f g e)) (ok_datas f hK).1 (ok_datas f hK).2 hu h
theorem ne_ssi {prog : Program} {w : World} {A : Around} {E : Value → Shared → Prop} {s : Shared} {h₀ : Heap} {L a b : Addr} {news : Led} {x y : Str} {k : Int} {t1 t2 t3 u1 u2 u3 : Tok} {c d : Nat} {Q : Value → Shared → Prop} (N : News h₀ L s.heap news) (ha : (a, tupOf #[.str x t1, .str y t2, .int k t3] c) ∈ news) (hb : (b, tupOf #[.str x u1, .str y u2, .int k u3] d) ∈ news)
    (ox : PyData.strOk x = true) (oy : PyData.strOk y = true) (hu : A.units + 64 < cLine) (h : Q (.bool false) s) : wpAny (model prog w) A (compareOp .NotEq (.ref a) (.ref b)) Q E s := by
  have r : ∀ {t1 t2 t3 : Tok}, ReadsAll s.heap [.str x t1, .str y t2, .int k t3] [.str x, .str y, .int k] [] := ReadsAll.cons (Reads.str _ _) (ReadsAll.cons (Reads.str _ _) (ReadsAll.cons (Reads.int _ _) ReadsAll.nil))
  exact nt_ne (nt_rtup N ha r) (nt_rtup N hb r) rfl (by simp [shaped, PyData.canLay0, PyData.canLayAll0, PyData.depth, PyData.depthAll, ox, oy]) (by simp [noMix, noMixAll]) hu h
theorem ne_rows {prog : Program} {w : World} {A : Around} {E : Value → Shared → Prop} {s : Shared} {h₀ : Heap} {L a b : Addr} {news : Led} {r0 r1 s0 s1 : Addr} {x y z u x' y' z' u' : Int} {t1 t2 t3 t4 v1 v2 v3 v4 : Tok} {c c0 c1 d d0 d1 : Nat} {Q : Value → Shared → Prop} (N : News h₀ L s.heap news)
    (ha : (a, listOf #[.ref r0, .ref r1] c) ∈ news) (ha0 : (r0, listOf #[.int x t1, .int y t2] c0) ∈ news) (ha1 : (r1, listOf #[.int z t3, .int u t4] c1) ∈ news)
    (hb : (b, listOf #[.ref s0, .ref s1] d) ∈ news) (hb0 : (s0, listOf #[.int x' v1, .int y' v2] d0) ∈ news) (hb1 : (s1, listOf #[.int z' v3, .int u' v4] d1) ∈ news)
    (e1 : x = x') (e2 : y = y') (e3 : z = z') (e4 : u = u') (hu : A.units + 64 < cLine) (h : Q (.bool false) s) : wpAny (model prog w) A (compareOp .NotEq (.ref a) (.ref b)) Q E s := by
  subst e1 e2 e3 e4
  have q : ∀ {x y : Int} {t t' : Tok}, ReadsAll s.heap [.int x t, .int y t'] [.int x, .int y] [] := ReadsAll.cons (Reads.int _ _) (ReadsAll.cons (Reads.int _ _) ReadsAll.nil)
  exact nt_ne (nt_rlist N ha (ReadsAll.cons (nt_rlist N ha0 q) (ReadsAll.cons (nt_rlist N ha1 q) ReadsAll.nil))) (nt_rlist N hb (ReadsAll.cons (nt_rlist N hb0 q) (ReadsAll.cons (nt_rlist N hb1 q) ReadsAll.nil))) rfl
    (by simp [shaped, PyData.canLay0, PyData.canLayAll0, PyData.depth, PyData.depthAll]) (by simp [noMix, noMixAll]) hu h
-- a cell taken out of the ledger
def noCell (X : Addr) (T : Led) : Led := T.filter fun q => decide (@Ne Nat q.1 X)
theorem noCell_off {X : Addr} {T : Led} : ∀ q ∈ noCell X T, q.1 ≠ X := fun q h => by simpa using (List.mem_filter.mp h).2
theorem noCell_sub {X : Addr} {T : Led} : Sub (noCell X T) T := fun q h => (List.mem_filter.mp h).1
theorem noCell_mem {h₀ h : Heap} {L X a : Addr} {T : Led} {c o : Obj} (N : News h₀ L h T) (hX : (X, c) ∈ T) {v : Option Value} (hc : c.data = .cell v) (m : (a, o) ∈ T) (ho : ∀ v, o.data ≠ .cell v) : (a, o) ∈ noCell X T :=
  List.mem_filter.mpr ⟨m, by
    refine decide_eq_true ?_
    intro (e : a = X)
    subst e
    have h1 := (N _ m).1
    have h2 := (N _ hX).1
    rw [h1] at h2
    cases h2
    exact ho _ hc⟩
theorem cellOut {h₀ h : Heap} {L X : Addr} {T : Led} {o : Obj} (N : News h₀ L h T) (m : (X, o) ∈ T) : News h₀ L h ((X, o) :: noCell X T) := fun q hq => N q (by
  rcases List.mem_cons.mp hq with e | hq
  · exact e ▸ m
  · exact noCell_sub q hq)
theorem PlaneIn.keep {w : World} {T T' : Led} {P : Addr} {a b c d : Int} (k : ∀ x o, (x, o) ∈ T → (∀ v, o.data ≠ .cell v) → (x, o) ∈ T') (h : PlaneIn w T P a b c d) : PlaneIn w T' P a b c d := by
  obtain ⟨dx, rl, r0, r1, tx, ty, k1, k2, k3, ta, tb, tc, td, c1, c2, c3, m1, m2, m3, m4, m5⟩ := h
  exact ⟨dx, rl, r0, r1, tx, ty, k1, k2, k3, ta, tb, tc, td, c1, c2, c3, k _ _ m1 (by intro v e; cases e), k _ _ m2 (by intro v e; cases e), k _ _ m3 (by intro v e; cases e), k _ _ m4 (by intro v e; cases e), k _ _ m5 (by intro v e; cases e)⟩
theorem Planes.keep {w : World} {T T' : Led} {d : Nat → Nat → Int} {ps : List Value} (k : ∀ x o, (x, o) ∈ T → (∀ v, o.data ≠ .cell v) → (x, o) ∈ T') (h : Planes w T d ps) : Planes w T' d ps := fun i v e => by
  obtain ⟨P, rfl, hP⟩ := h i v e
  exact ⟨P, rfl, hP.keep k⟩
theorem PicIn.keep {w : World} {T T' : Led} {X : Addr} {a : Str} {p : Int} {pl : Addr} (k : ∀ x o, (x, o) ∈ T → (∀ v, o.data ≠ .cell v) → (x, o) ∈ T') (h : PicIn w T X a p pl) : PicIn w T' X a p pl := by
  obtain ⟨dx, ta, tp, k1, k2, k3, m1, m2⟩ := h
  exact ⟨dx, ta, tp, k1, k2, k3, k _ _ m1 (by intro v e; cases e), k _ _ m2 (by intro v e; cases e)⟩
theorem RowAt.keep {T T' : Led} {l : Addr} {f : Nat → Int} (k : ∀ x o, (x, o) ∈ T → (∀ v, o.data ≠ .cell v) → (x, o) ∈ T') (h : RowAt T l f) : RowAt T' l f := by
  obtain ⟨t0, t1, t2, t3, n, hm⟩ := h
  exact ⟨t0, t1, t2, t3, n, k _ _ hm (by intro v e; cases e)⟩
theorem RowsIn.keep {T T' : Led} {l : Addr} {d : Nat → Nat → Int} (k : ∀ x o, (x, o) ∈ T → (∀ v, o.data ≠ .cell v) → (x, o) ∈ T') (h : RowsIn T l d) : RowsIn T' l d := by
  obtain ⟨R0, R1, R2, R3, c, m, h0, h1, h2, h3⟩ := h
  exact ⟨R0, R1, R2, R3, c, k _ _ m (by intro v e; cases e), h0.keep k, h1.keep k, h2.keep k, h3.keep k⟩
theorem pr_led {h₀ h : Heap} {L RL R0 R1 R2 R3 Xl Xr Xp : Addr} {oX oR oP : Obj} {p : Int} {r0 g0 b0 k0 r1 g1 b1 k1 r2 g2 b2 k2 r3 g3 b3 k3 : Int} {t1 t2 t3 t4 u1 u2 u3 u4 v1 v2 v3 v4 w1 w2 w3 w4 : Tok} {y0 y1 y2 y3 y4 y5 y6 y7 y8 : Addr × Obj} {rest : Led} {n0 n1 n2 n3 : Nat}
    (N : News h₀ L h (y0 :: (RL, lst [.ref R0, .ref R1, .ref R2, .ref R3]) :: (R3, listOf #[.int r3 t1, .int g3 t2, .int b3 t3, .int k3 t4] n3) :: y1 :: y2 :: (R2, listOf #[.int r2 u1, .int g2 u2, .int b2 u3, .int k2 u4] n2) :: y3 :: (R1, listOf #[.int r1 v1, .int g1 v2, .int b1 v3, .int k1 v4] n1) :: y4 :: (R0, listOf #[.int r0 w1, .int g0 w2, .int b0 w3, .int k0 w4] n0) :: y5 :: y6 :: y7 :: (Xl, oX) :: (Xr, oR) :: (Xp, oP) :: y8 :: rest))
    (ok0 : Ok3 p r0 g0 b0) (ok1 : Ok3 p r1 g1 b1) (ok2 : Ok3 p r2 g2 b2) (ok3 : Ok3 p r3 g3 b3) :
    ∃ (T : Led) (d : Nat → Nat → Int), News h₀ L h T ∧ RowsIn T RL d ∧ (Xl, oX) ∈ T ∧ (Xr, oR) ∈ T ∧ (Xp, oP) ∈ T ∧ ∀ q, Ok3G p fun i => d i q := by
  refine ⟨_, fun i q => of4 (of4 r0 g0 b0 k0 i) (of4 r1 g1 b1 k1 i) (of4 r2 g2 b2 k2 i) (of4 r3 g3 b3 k3 i) q, N, ⟨R0, R1, R2, R3, 4, by simp, ⟨w1, w2, w3, w4, n0, ?_⟩, ⟨v1, v2, v3, v4, n1, ?_⟩, ⟨u1, u2, u3, u4, n2, ?_⟩, ⟨t1, t2, t3, t4, n3, ?_⟩⟩, ?_, ?_, ?_, fun q => ?_⟩
  case refine_8 =>
    rcases q with _ | _ | _ | q
    · exact ok0
    · exact ok1
    · exact ok2
    · exact ok3
  all_goals repeat (first | exact List.mem_cons_self | refine List.mem_cons_of_mem _ ?_)
end
-- NtPrF
section
open PySem PySem.W PySem.Spec PySem.Calls PyProof.Rows PySem.SeqAt PyProof.Rows.LCg
def Stop (P : Prop) : Prop := P
def HoldSrc : Prop := True
theorem stop_here {P : Prop} (h : Stop P) : P := h
theorem allLt_up {d e : Nat} : ∀ {l : Led}, AllLt d l → d ≤ e → AllLt e l
  | [], _, _ => trivial
  | _ :: _, h, le => ⟨Nat.lt_of_lt_of_le h.1 le, allLt_up h.2 le⟩

theorem c_pr (w : World) (src cl C0 C1 C2 C3 : Addr) (i j p : Int) (ti tj t : Tok) (c cc n0 n1 n2 n3 : Nat) (r0 g0 b0 r1 g1 b1 r2 g2 b2 r3 g3 b3 : Int) (u0 v0 x0 u1 v1 x1 u2 v2 x2 u3 v3 x3 : Tok) (rest : Led) (hne : ∀ p ∈ rest, p.1 ≠ src) (h0 : 0 ≤ i) (hj : 0 ≤ j ∧ j < 2147483647) (hp : 2 ≤ p ∧ p ≤ 8)
   (mc : (cl, listOf #[.ref C0, .ref C1, .ref C2, .ref C3] cc) ∈ rest) (m0 : (C0, listOf #[.int r0 u0, .int g0 v0, .int b0 x0] n0) ∈ rest) (m1 : (C1, listOf #[.int r1 u1, .int g1 v1, .int b1 x1] n1) ∈ rest) (m2 : (C2, listOf #[.int r2 u2, .int g2 v2, .int b2 x2] n2) ∈ rest) (m3 : (C3, listOf #[.int r3 u3, .int g3 v3, .int b3 x3] n3) ∈ rest)
   (ok0 : Ok3 p r0 g0 b0) (ok1 : Ok3 p r1 g1 b1) (ok2 : Ok3 p r2 g2 b2) (ok3 : Ok3 p r3 g3 b3) : ConR w 323 [.ref src, .ref cl, .int p t] ((src, srcObj c i j ti tj) :: rest) 100 := by
  w_top off
  k_with_none
  k_with "k_room" => skip
  k_with "units_room" => skip
  k_with "k_all" => ((repeat ((refine' List.forall_mem_cons.mpr ⟨?ha, ?_⟩); (case ha => k_ne))); (first | exact List.forall_mem_nil _ | assumption | exact off1_all (by assumption) | exact allLt_ne (by assumption) (by (try dsimp only); omega) | ((with_reducible rename _ ∧ AllLt _ _ => hx9); exact allLt_ne hx9.2 (by (try dsimp only); omega)) | ((with_reducible rename _ ∧ _ ∧ AllLt _ _ => hx9); exact allLt_ne hx9.2.2 (by (try dsimp only); omega)) | ((with_reducible rename _ ∧ _ ∧ _ ∧ AllLt _ _ => hx9); exact allLt_ne hx9.2.2.2 (by (try dsimp only); omega))))
  k_with "lcg_sub" => first | with_reducible assumption | ((with_reducible (repeat' (first | exact List.mem_cons_self | refine List.mem_cons_of_mem _ ?_ | refine List.mem_append_right _ ?_ | assumption))); done)
  k_with "k_mem" => first | with_reducible assumption | ((with_reducible (repeat' (first | exact List.mem_cons_self | refine List.mem_cons_of_mem _ ?_ | refine List.mem_append_right _ ?_ | assumption))); done)
  k_with "lcg_off" => first | exact True.intro | with_reducible assumption | (refine And.intro (by first | with_reducible assumption | exact ⟨by k_ne, by k_ne, by k_ne⟩) ?_; lcg_off) | exact off3_sub (by with_reducible assumption) (by (repeat' (first | with_reducible assumption | exact Sub.refl | refine Sub.cons ?_ | refine Sub.app ?_)))
  k_with "k_lt" => skip
  k_with "k_ne" => (refine neN ?_; (try dsimp only); first | with_reducible assumption | exact Ne.symm (by with_reducible assumption) | exact o_gt (by with_reducible assumption) (by lcg_sub) | exact o_1' (by with_reducible assumption) (by lcg_sub) | exact o_lt (by with_reducible assumption) (by lcg_sub) | exact o_1 (by with_reducible assumption) (by lcg_sub) | exact o_3I (by with_reducible assumption) (by lcg_sub) | exact Ne.symm (o_3I (by with_reducible assumption) (by lcg_sub)) | exact o_3C (by with_reducible assumption) (by lcg_sub) | exact Ne.symm (o_3C (by with_reducible assumption) (by lcg_sub)) | exact o_3D (by with_reducible assumption) (by lcg_sub) | exact Ne.symm (o_3D (by with_reducible assumption) (by lcg_sub)) | exact o_4I (by with_reducible assumption) (by lcg_sub) | exact Ne.symm (o_4I (by with_reducible assumption) (by lcg_sub)) | exact o_4C (by with_reducible assumption) (by lcg_sub) | exact Ne.symm (o_4C (by with_reducible assumption) (by lcg_sub)) | exact o_4X (by with_reducible assumption) (by lcg_sub) | exact Ne.symm (o_4X (by with_reducible assumption) (by lcg_sub)) | exact o_4D (by with_reducible assumption) (by lcg_sub) | exact Ne.symm (o_4D (by with_reducible assumption) (by lcg_sub)) | ((repeat (first | exact cn1 | exact cn2 | exact cn3 | exact cn4 | exact cn5 | exact cn6 | exact cn7 | exact Ne.symm cn1 | exact Ne.symm cn2 | exact Ne.symm cn3 | exact Ne.symm cn4 | exact Ne.symm cn5 | exact Ne.symm cn6 | exact Ne.symm cn7 | refine cnS ?_)); done))
  k_with "k_all" => ((repeat ((refine' List.forall_mem_cons.mpr ⟨?ha, ?_⟩); (case ha => k_ne))); (first | exact List.forall_mem_nil _ | with_reducible assumption | exact all_lt (by with_reducible assumption) (by (repeat' (first | with_reducible assumption | exact Sub.refl | refine Sub.cons ?_ | refine Sub.app ?_))) | exact all_1 (by with_reducible assumption) (by (repeat' (first | with_reducible assumption | exact Sub.refl | refine Sub.cons ?_ | refine Sub.app ?_))) | exact all_3I (by with_reducible assumption) (by (repeat' (first | with_reducible assumption | exact Sub.refl | refine Sub.cons ?_ | refine Sub.app ?_))) | exact all_3C (by with_reducible assumption) (by (repeat' (first | with_reducible assumption | exact Sub.refl | refine Sub.cons ?_ | refine Sub.app ?_))) | exact all_3D (by with_reducible assumption) (by (repeat' (first | with_reducible assumption | exact Sub.refl | refine Sub.cons ?_ | refine Sub.app ?_))) | exact all_4I (by with_reducible assumption) (by (repeat' (first | with_reducible assumption | exact Sub.refl | refine Sub.cons ?_ | refine Sub.app ?_))) | exact all_4C (by with_reducible assumption) (by (repeat' (first | with_reducible assumption | exact Sub.refl | refine Sub.cons ?_ | refine Sub.app ?_))) | exact all_4X (by with_reducible assumption) (by (repeat' (first | with_reducible assumption | exact Sub.refl | refine Sub.cons ?_ | refine Sub.app ?_))) | exact all_4D (by with_reducible assumption) (by (repeat' (first | with_reducible assumption | exact Sub.refl | refine Sub.cons ?_ | refine Sub.app ?_))) | exact allLt_ne (by with_reducible assumption) (by repeat (first | exact Nat.le_refl _ | refine Nat.le_succ_of_le ?_))))
  k_with "k_enter" => skip
  k_with "FinE" => ((unfold LCg.FinE); intro D' h' tk' F' N' o1'; (try simp only [List.nil_append, List.cons_append] at N'); (try dsimp only))
  k_with "FinA" => ((unfold LCg.FinA); intro D' h' tk' F' N' o1'; (try simp only [List.nil_append, List.cons_append] at N'); (try dsimp only))
  k_with "CompEnd" => (refine' nt_compEnd ?F ?N ?P1 ?P2 ?P3 ?off ?S ?_; (case F => assumption); (case N => assumption); (case P1 => repeat' (first | exact Pick.head | refine' Pick.tail ?_)); (case P2 => repeat' (first | exact Pick.head | refine' Pick.tail ?_)); (case P3 => repeat' (first | exact Pick.head | refine' Pick.tail ?_)); (case off => lcg_off); (case S => first | lcg_src | assumption))
  k_with "eval ListComp" => (k_here; (with_reducible show wpAny _ _ (eval (PySem.Expr.ListComp _ [⟨PySem.Expr.Name _ _, _, [], _⟩] _ _) _) _ _ _); (try k_fold); k_dflt (refine LCg.ListComp_U (F₀ := by k_asm) (by with_unfolding_all rfl) (by decide) (by rfl) (by decide) (by rfl) ?_))
  k_with "exec Assign cons ListComp" => (k_here; k_dflt (refine LCg.Assign_ListComp_U (F₀ := by k_asm) (by rfl) (by with_unfolding_all rfl) (by with_unfolding_all rfl) (by decide) (by rfl) (by decide) (by rfl) (by rfl) (by rfl) ?_))
  k_with "eval ListComp" => (k_here; (with_reducible show wpAny _ _ (eval (PySem.Expr.ListComp _ [⟨PySem.Expr.Name _ _, _, [_], _⟩] _ _) _) _ _ _); (try k_fold); k_dflt (refine LCt.ListComp_T (F₀ := by k_asm) (by with_unfolding_all rfl) (by decide) (by rfl) (by decide) (by rfl) ?_))
  k_with "CompSrcT" => (k_here; k_dflt (first | (refine LCt.CompSrcT.ledger (by rfl) (by k_asm) (by k_asm) (by lcg_sub) (by first | exact Nat.le_of_ble_eq_true rfl | size_fits) ?_; intro g'; lct_lit) | (refine LCt.CompSrcT.range (by rfl) (by k_asm) (by k_asm) (by assumption) (by first | decide | rfl) (by first | rfl | decide) (by first | exact Nat.le_of_ble_eq_true rfl | size_fits) ?_; intro g'; lct_lit)))
  k_with "CompRestT" => (with_unfolding_all first | (refine LCt.CompRestT.succ ?_; intro v' I' oI' C' oC' D' m' h' tk' E' hv' hC' hx' F' N' off' ne'; (first | lcg_open hv' | (obtain ⟨t9', hv9'⟩ := hv'; subst hv9')); (obtain ⟨ne1', ne2', ne3'⟩ := ne')) | refine LCt.CompRestT.zero ?_)
  k_with "CompSrc" => (k_here; k_dflt (first | (refine LCg.CompSrc.ledger (by rfl) (by k_asm) (by k_asm) (by lcg_sub) (by first | exact Nat.le_of_ble_eq_true rfl | size_fits) ?_; intro g'; lcg_lit) | (refine LCg.CompSrc.range (by rfl) (by k_asm) (by k_asm) (by assumption) (by first | decide | rfl) (by first | rfl | decide) (by first | exact Nat.le_of_ble_eq_true rfl | size_fits) ?_; intro g'; lcg_lit)))
  k_with "CompRest" => (with_unfolding_all first | (refine LCg.CompRest.succ ?_; intro v' I' oI' C' oC' D' m' h' tk' E' hv' hC' hx' F' N' off' ne'; (first | lcg_open hv' | (obtain ⟨t9', hv9'⟩ := hv'; subst hv9')); (obtain ⟨ne1', ne2', ne3'⟩ := ne')) | refine LCg.CompRest.zero ?_)
  k_with "execs cons" => ((with_reducible refine gen_toks (fun tk => ?_)); (with_reducible refine wpAny_execs_cons ?_); (try dsimp only); (try k_fold))
  k_with "subscriptTail" => (k_here; (with_reducible show wpAny _ _ (subscriptTail _ _ (Value.ref _) (Value.int _ _)) _ _ _); k_dflt (first | (refine' nt_item ?N ?hm ?k2 ?k3 ?k4 ?_ ?k6; (case N => k_asm); (case hm => lcg_sub); (case k2 => decide); (case k3 => decide); (case k4 => exact rfl); (case k6 => with_unfolding_all rfl); k_whole) | (refine' nt_itemK ?X ?F ?hl ?k2 ?k3 ?k4 ?_ ?k6 ?k7; (case F => k_asm); (case X => k_asm); (case hl => k_is); (case k2 => decide); (case k3 => decide); (case k4 => exact rfl); (case k6 => with_unfolding_all rfl); (case k7 => intro _; with_unfolding_all rfl); k_whole) | (refine' nt_itemT ?N ?hm ?k2 ?k3 ?k4 ?_ ?k6 ?k7; (case N => k_asm); (case hm => lcg_sub); (case k2 => decide); (case k3 => decide); (case k4 => exact rfl); (case k6 => with_unfolding_all rfl); (case k7 => intro _; with_unfolding_all rfl); k_whole)))
  k_with "subscriptTail Name Constant ref int" => (k_here; (with_reducible show wpAny _ _ (subscriptTail _ _ (Value.ref _) (Value.int _ _)) _ _ _); k_dflt (first | (refine' nt_item ?N ?hm ?k2 ?k3 ?k4 ?_ ?k6; (case N => k_asm); (case hm => lcg_sub); (case k2 => decide); (case k3 => decide); (case k4 => exact rfl); (case k6 => with_unfolding_all rfl); k_whole) | (refine' nt_itemK ?X ?F ?hl ?k2 ?k3 ?k4 ?_ ?k6 ?k7; (case F => k_asm); (case X => k_asm); (case hl => k_is); (case k2 => decide); (case k3 => decide); (case k4 => exact rfl); (case k6 => with_unfolding_all rfl); (case k7 => intro _; with_unfolding_all rfl); k_whole) | (refine' nt_itemT ?N ?hm ?k2 ?k3 ?k4 ?_ ?k6 ?k7; (case N => k_asm); (case hm => lcg_sub); (case k2 => decide); (case k3 => decide); (case k4 => exact rfl); (case k6 => with_unfolding_all rfl); (case k7 => intro _; with_unfolding_all rfl); k_whole)))
  k_with "subscriptTail Name Name ref int" => (k_here; (with_reducible show wpAny _ _ (subscriptTail _ _ (Value.ref _) (Value.int _ _)) _ _ _); k_dflt (first | (refine' nt_item ?N ?hm ?k2 ?k3 ?k4 ?_ ?k6; (case N => k_asm); (case hm => lcg_sub); (case k2 => decide); (case k3 => decide); (case k4 => exact rfl); (case k6 => with_unfolding_all rfl); k_whole) | (refine' nt_itemK ?X ?F ?hl ?k2 ?k3 ?k4 ?_ ?k6 ?k7; (case F => k_asm); (case X => k_asm); (case hl => k_is); (case k2 => decide); (case k3 => decide); (case k4 => exact rfl); (case k6 => with_unfolding_all rfl); (case k7 => intro _; with_unfolding_all rfl); k_whole) | (refine' nt_itemT ?N ?hm ?k2 ?k3 ?k4 ?_ ?k6 ?k7; (case N => k_asm); (case hm => lcg_sub); (case k2 => decide); (case k3 => decide); (case k4 => exact rfl); (case k6 => with_unfolding_all rfl); (case k7 => intro _; with_unfolding_all rfl); k_whole)))
  k_with "subscriptTail Attribute Name Constant ref int" => (k_here; (with_reducible show wpAny _ _ (subscriptTail _ _ (Value.ref _) (Value.int _ _)) _ _ _); k_dflt (first | (refine' nt_item ?N ?hm ?k2 ?k3 ?k4 ?_ ?k6; (case N => k_asm); (case hm => lcg_sub); (case k2 => decide); (case k3 => decide); (case k4 => exact rfl); (case k6 => with_unfolding_all rfl); k_whole) | (refine' nt_itemK ?X ?F ?hl ?k2 ?k3 ?k4 ?_ ?k6 ?k7; (case F => k_asm); (case X => k_asm); (case hl => k_is); (case k2 => decide); (case k3 => decide); (case k4 => exact rfl); (case k6 => with_unfolding_all rfl); (case k7 => intro _; with_unfolding_all rfl); k_whole) | (refine' nt_itemT ?N ?hm ?k2 ?k3 ?k4 ?_ ?k6 ?k7; (case N => k_asm); (case hm => lcg_sub); (case k2 => decide); (case k3 => decide); (case k4 => exact rfl); (case k6 => with_unfolding_all rfl); (case k7 => intro _; with_unfolding_all rfl); k_whole)))
  k_with "subscriptTail Attribute Name Name ref int" => (k_here; (with_reducible show wpAny _ _ (subscriptTail _ _ (Value.ref _) (Value.int _ _)) _ _ _); k_dflt (first | (refine' nt_item ?N ?hm ?k2 ?k3 ?k4 ?_ ?k6; (case N => k_asm); (case hm => lcg_sub); (case k2 => decide); (case k3 => decide); (case k4 => exact rfl); (case k6 => with_unfolding_all rfl); k_whole) | (refine' nt_itemK ?X ?F ?hl ?k2 ?k3 ?k4 ?_ ?k6 ?k7; (case F => k_asm); (case X => k_asm); (case hl => k_is); (case k2 => decide); (case k3 => decide); (case k4 => exact rfl); (case k6 => with_unfolding_all rfl); (case k7 => intro _; with_unfolding_all rfl); k_whole) | (refine' nt_itemT ?N ?hm ?k2 ?k3 ?k4 ?_ ?k6 ?k7; (case N => k_asm); (case hm => lcg_sub); (case k2 => decide); (case k3 => decide); (case k4 => exact rfl); (case k6 => with_unfolding_all rfl); (case k7 => intro _; with_unfolding_all rfl); k_whole)))
  k_with "subscriptTail Subscript Name ref int" => (k_here; (with_reducible show wpAny _ _ (subscriptTail _ _ (Value.ref _) (Value.int _ _)) _ _ _); k_dflt (first | (refine' nt_item ?N ?hm ?k2 ?k3 ?k4 ?_ ?k6; (case N => k_asm); (case hm => lcg_sub); (case k2 => decide); (case k3 => decide); (case k4 => exact rfl); (case k6 => with_unfolding_all rfl); k_whole) | (refine' nt_itemK ?X ?F ?hl ?k2 ?k3 ?k4 ?_ ?k6 ?k7; (case F => k_asm); (case X => k_asm); (case hl => k_is); (case k2 => decide); (case k3 => decide); (case k4 => exact rfl); (case k6 => with_unfolding_all rfl); (case k7 => intro _; with_unfolding_all rfl); k_whole) | (refine' nt_itemT ?N ?hm ?k2 ?k3 ?k4 ?_ ?k6 ?k7; (case N => k_asm); (case hm => lcg_sub); (case k2 => decide); (case k3 => decide); (case k4 => exact rfl); (case k6 => with_unfolding_all rfl); (case k7 => intro _; with_unfolding_all rfl); k_whole)))
  k_with "subscriptTail Subscript Constant ref int" => (k_here; (with_reducible show wpAny _ _ (subscriptTail _ _ (Value.ref _) (Value.int _ _)) _ _ _); k_dflt (first | (refine' nt_item ?N ?hm ?k2 ?k3 ?k4 ?_ ?k6; (case N => k_asm); (case hm => lcg_sub); (case k2 => decide); (case k3 => decide); (case k4 => exact rfl); (case k6 => with_unfolding_all rfl); k_whole) | (refine' nt_itemK ?X ?F ?hl ?k2 ?k3 ?k4 ?_ ?k6 ?k7; (case F => k_asm); (case X => k_asm); (case hl => k_is); (case k2 => decide); (case k3 => decide); (case k4 => exact rfl); (case k6 => with_unfolding_all rfl); (case k7 => intro _; with_unfolding_all rfl); k_whole) | (refine' nt_itemT ?N ?hm ?k2 ?k3 ?k4 ?_ ?k6 ?k7; (case N => k_asm); (case hm => lcg_sub); (case k2 => decide); (case k3 => decide); (case k4 => exact rfl); (case k6 => with_unfolding_all rfl); (case k7 => intro _; with_unfolding_all rfl); k_whole)))
  k_with "setItem ref int" => (k_here; k_dflt (refine' ki_set ?F ?N ?k2 ?k3 ?k4 ?U ?_; (case F => k_asm); (case N => k_asm); (case U => k_upd); (case k2 => decide); (case k3 => decide); (case k4 => exact rfl); k_whole); intro h' F' N'; (try k_sweep))
  k_with "eval Name" => (k_here; (with_reducible show wpAny _ _ (eval (Expr.Name _ _) (envOf _ _ _ _ _)) _ _ _); (with_reducible rename Fr _ _ _ _ => kF); k_dflt (first | (name_kind "local"; (refine' ld kF ?k2 ?_ ?a ?b ?c; (case k2 => exact rfl); (case a => kernel_rfl!); (case b => kernel_rfl!); (case c => decide +kernel)); k_whole) | (name_kind "globalImplicit"; (refine' name_K kF ?k1 ?k2 ?k3 ?_ ?a ?b ?c; (case k1 => k_asm); (case k2 => k_asm); (case k3 => k_is); (case a => kernel_rfl!); (case b => kernel_rfl!); (case c => decide +kernel); k_whole)) | (refine' name_B kF ?k1 ?k2 ?k3 ?k4 ?k5 ?_; (case k1 => k_asm); (case k2 => k_asm); (case k3 => k_is); (case k4 => boot_by_name); (case k5 => decide); k_whole)))
  k_with "call ref" => (k_here; (with_reducible show wpAny _ _ (call (Value.ref 275) _) _ _ _); k_dflt (refine' Con.use (c_take0 _ _ _ _ _ _ _ _ ?ne _ _ ?h0 ?hj ?ht) ?B ?F ?X ?N ?T ?hk ?hd ?hu ?_; (case F => k_asm); (case N => (refine' nt_pick ?N1 ?P1; (case N1 => k_asm); (case P1 => repeat' (first | exact Pick.head | refine' Pick.tail ?_)))); (case ne => k_all); (case h0 => first | assumption | omega); (case hj => first | assumption | omega); (case ht => first | assumption | omega); (case T => k_asm); (case X => k_asm); (case B => k_asm); (case hk => first | exact rfl | assumption); (case hd => ktr_room); (case hu => ktr_units); k_whole); intro d' i' j' td' ti' tj' h' tk' hi' hj' hd0' hd1' F' N'; (try k_sweep))
  k_with "compareOp NotEq ref ref" => (k_here; k_dflt (first | (with_reducible refine' ne_t3 ?N ?ha ?hb ?e1 ?e2 ?e3 ?hu ?_; (case N => k_asm); (case ha => lcg_sub); (case hb => lcg_sub); (case e1 => first | assumption | exact (Grey.h (by assumption) (by assumption) (by assumption)).1 | exact (Grey2.h (by assumption) (by assumption) (by assumption)).1 | rfl); (case e2 => first | assumption | exact (Grey.h (by assumption) (by assumption) (by assumption)).2.1 | exact (Grey2.h (by assumption) (by assumption) (by assumption)).2.1 | rfl); (case e3 => first | assumption | exact (Grey.h (by assumption) (by assumption) (by assumption)).2.2 | exact (Grey2.h (by assumption) (by assumption) (by assumption)).2.2 | rfl); (case hu => units_room)) | (with_reducible refine' ne_l3 ?N ?ha ?hb ?e1 ?e2 ?e3 ?hu ?_; (case N => k_asm); (case ha => lcg_sub); (case hb => lcg_sub); (case e1 => first | assumption | exact (Grey.h (by assumption) (by assumption) (by assumption)).1 | exact (Grey2.h (by assumption) (by assumption) (by assumption)).1 | rfl); (case e2 => first | assumption | exact (Grey.h (by assumption) (by assumption) (by assumption)).2.1 | exact (Grey2.h (by assumption) (by assumption) (by assumption)).2.1 | rfl); (case e3 => first | assumption | exact (Grey.h (by assumption) (by assumption) (by assumption)).2.2 | exact (Grey2.h (by assumption) (by assumption) (by assumption)).2.2 | rfl); (case hu => units_room)) | (with_reducible refine' ne_l0 ?N ?ha ?hb ?hu ?_; (case N => k_asm); (case ha => lcg_sub); (case hb => lcg_sub); (case hu => units_room))))
  k_with "compareOp Eq ref ref" => (k_here; k_dflt ((with_reducible refine' eq_l0 ?N ?ha ?hb ?hu ?_; (case N => k_asm); (case ha => lcg_sub); (case hb => lcg_sub); (case hu => units_room))))
  k_with "eval Call" => ((with_reducible show wpAny _ _ (eval (Expr.Call (Expr.Name _ _) _ [] _) (envOf _ _ _ _ _)) _ _ _); k_dflt (refine Call_ ?_))
  k_with "binaryOp Pow int int" => (k_here; (with_reducible show wpAny _ _ (binaryOp _ (Value.int 2 _) _) _ _ _); k_dflt (first | (refine' nt_pow ?hp ?_; (case hp => first | assumption | omega)) | (refine' nt_pow1 ?hp ?_; (case hp => first | assumption | omega))))
  k_with "call builtin:list.append" => (k_here; (with_reducible show wpAny _ _ (call (Value.builtin _) [Value.ref _, _]) _ _ _); k_dflt (refine' nt_append ?F ?N ?P ?off ?hsz ?_; (case F => k_asm); (case N => k_asm); (case P => repeat' (first | exact Pick.head | refine' Pick.tail ?_)); (case off => k_all); (case hsz => first | exact Nat.le_of_ble_eq_true rfl | size_fits)); intro h' F' N'; (try simp only [List.cons_append, List.nil_append] at N'); (try k_sweep))
  k_with "exec For Name Call cons nil" => (k_here; (with_reducible rename Fr _ _ _ _ => lF'); (with_unfolding_all refine' For_turns lF' ?_; k_whole))
  k_with "pyIter ref" => (k_here; (with_reducible show wpAny _ _ (pyIter (Value.ref _)) (fun it s₂ => TurnsAt _ _ _ _ _ _ _ _ _ it s₂) _ _); k_dflt (refine' rangeTurns ?hh ?hr ?hs ?hn ?F ?N ?_; (case hh => rfl); (case hr => assumption); (case hs => first | decide | rfl); (case hn => first | rfl | decide); (case F => k_asm); (case N => k_asm)); intro i' l1'; (try k_lt l1'))
  k_with "UnrEndW" => (refine' unrEnd ?F ?N ?P ?off ⟨trivial, ?_⟩; (case F => assumption); (case N => assumption); (case P => repeat' (first | exact Pick.head | refine' Pick.tail ?_)); (case off => k_all))
  k_with "eval ListComp" => (k_here; (with_reducible show wpAny _ _ (eval (PySem.Expr.ListComp _ [⟨PySem.Expr.Name _ _, _, [], _⟩] _ _) _) _ _ _); (try k_fold); k_dflt (refine ListComp_X (F₀ := by k_asm) (by with_unfolding_all rfl) (by intro _; rfl) (by intro _; rfl) (by rfl) (by decide) (by rfl) ?_))
  k_with "SrcX" => (k_here; k_dflt (refine SrcX.intro (by rfl) (by k_asm) (by k_asm) (by assumption) (by first | decide | rfl) (by first | rfl | decide) (by first | exact Nat.le_of_ble_eq_true rfl | size_fits) ?_; intro g'))
  k_with "RestX" => (with_unfolding_all first | (refine RestX.succ ?_; intro t' I' oI' C' oC' X' oX' D' h' tk' E' hX' F' N' off' ne'; (obtain ⟨ne1', ne2', ne3', ne4', ne5', ne6'⟩ := ne')) | refine RestX.zero ?_)
  k_with "EndX" => (refine' EndX.intro ?F ?N ?P1 ?P2 ?P3 ?P4 ?off ?_; (case F => assumption); (case N => assumption); (case P1 => repeat' (first | exact Pick.head | refine' Pick.tail ?_)); (case P2 => repeat' (first | exact Pick.head | refine' Pick.tail ?_)); (case P3 => repeat' (first | exact Pick.head | refine' Pick.tail ?_)); (case P4 => repeat' (first | exact Pick.head | refine' Pick.tail ?_)); (case off => repeat' (first | exact True.intro | with_reducible assumption | (refine And.intro (by first | with_reducible assumption | exact ⟨by k_ne, by k_ne, by k_ne, by k_ne⟩) ?_))))
  k_with "call ref" => (k_here; (with_reducible show wpAny _ _ (call (Value.ref 84) _) _ _ _); k_dflt (refine' Con.use (c_plane _ _ _ _ _ _ _) ?B ?F ?X ?N ?T ?hk ?hd ?hu ?_; (case F => k_asm); (case N => k_asm); (case T => k_asm); (case X => k_asm); (case B => k_asm); (case hk => first | exact rfl | assumption); (case hd => ktr_room); (case hu => ktr_units); k_whole); intro x' d' k1' k2' k3' h' tk' F' N' l1' l2' l3'; skip; (try k_sweep))
  k_with "call ref" => (k_here; (with_reducible show wpAny _ _ (call (Value.ref 122) _) _ _ _); k_dflt (refine' Con.use (c_pic _ _ _ _ _ _ _) ?B ?F ?X ?N ?T ?hk ?hd ?hu ?_; (case F => k_asm); (case N => k_asm); (case T => k_asm); (case X => k_asm); (case B => k_asm); (case hk => first | exact rfl | assumption); (case hd => ktr_room); (case hu => ktr_units); k_whole); intro x' d' k1' k2' k3' h' tk' F' N' l1' l2' l3'; skip; (try k_sweep))
  k_with "call ref" => (k_here; (with_reducible show wpAny _ _ (call (Value.ref 228) _) _ _ _); k_dflt (refine' Con.use (c_turning _ _ _ _ _ _ _ _) ?B ?F ?X ?N ?T ?hk ?hd ?hu ?_; (case F => k_asm); (case N => k_asm); (case T => k_asm); (case X => k_asm); (case B => k_asm); (case hk => first | exact rfl | assumption); (case hd => ktr_room); (case hu => ktr_units); k_whole); intro x' d' k1' k2' k3' h' tk' F' N' l1' l2' l3'; skip; (try k_sweep))
  k_with "call ref" => (k_here; (with_reducible show wpAny _ _ (call (Value.ref 254) _) _ _ _); (with_reducible refine stop_here ?_))
  k_with "call ref" => (k_here; (with_reducible show wpAny _ _ (call (Value.ref 311) _) _ _ _); (with_reducible refine stop_here ?_))
  k_with "call ref" => (k_here; (with_reducible show wpAny _ _ (call (Value.ref 318) _) _ _ _); (with_reducible refine stop_here ?_))
  k_with "call ref" => (k_here; (with_reducible show wpAny _ _ (call (Value.ref 294) _) _ _ _); k_dflt (refine' Con.use (c_within _ _ _ _ _ _ _ _ ?hw1 ?hw2) ?B ?F ?X ?N ?T ?hk ?hd ?hu ?_; (case F => k_asm); (case N => k_asm); (case hw1 => first | with_reducible assumption | omega); (case hw2 => first | with_reducible assumption | omega); (case T => k_asm); (case X => k_asm); (case B => k_asm); (case hk => first | exact rfl | assumption); (case hd => ktr_room); (case hu => ktr_units); k_whole); intro h' tk' F' N'; (try k_sweep))
  k_with "call ref" => (k_here; (with_reducible show wpAny _ _ (call (Value.ref 282) _) _ _ _); k_dflt (refine' Con.use (c_one _ _ _ _ _ _ _ _ _ _ _ _ _ _ _ _ _ _ ?ne ?hm ?h0 ?hj) ?B ?F ?X ?N ?T ?hk ?hd ?hu ?_; (case F => k_asm); (case N => (refine' nt_pick ?N1 ?P1; (case N1 => k_asm); (case P1 => repeat' (first | exact Pick.head | refine' Pick.tail ?_)))); (case ne => k_all); (case hm => lcg_sub); (case h0 => assumption); (case hj => assumption); (case T => k_asm); (case X => k_asm); (case B => k_asm); (case hk => first | exact rfl | assumption); (case hd => ktr_room); (case hu => ktr_units); k_whole); intro x' i' j' t' ti' tj' h' tk' hx' hi' hj' F' N'; (obtain ⟨K', due', hkind'⟩ := Kind.of hx'; have hmany' := kind_many hkind'; have hdue' := kind_due hkind'; clear hx'); (try k_sweep))
  k_with "call ref" => (k_here; (with_reducible show wpAny _ _ (call (Value.ref 261) _) _ _ _); k_dflt (refine' Con.use (c_due _ _ _ _ _ _ ?hkd) ?B ?F ?X ?N ?T ?hk ?hd ?hu ?_; (case F => k_asm); (case N => k_asm); (case hkd => with_reducible assumption); (case T => k_asm); (case X => k_asm); (case B => k_asm); (case hk => first | exact rfl | assumption); (case hd => ktr_room); (case hu => ktr_units); k_whole); intro t' h' tk' F' N'; (try k_sweep))
  k_with "subscriptTail" => (k_here; (with_reducible show wpAny _ _ (subscriptTail _ _ (Value.ref _) (Value.str _ _)) _ _ _); k_dflt (refine' tab_tail (knd := strKind _ _) (enc := PyData.str) ?T ?_; (case T => k_tabat); (refine' getItem_tab PyProof.V.same_str (strKind_is _ _ _ _) ?k1 ?k2 ?_; (case k1 => k_tabat); (case k2 => first | exact kind_many (by with_reducible assumption) | exact kind_due (by with_reducible assumption)); k_whole)); intro _ hv'; dict_open hv')
  k_with "subscriptTail" => (k_here; (with_reducible show wpAny _ _ (subscriptTail _ _ (Value.ref _) (Value.int (0 + ((_ : Nat) : Int)) _)) _ _ _); k_dflt (first | (refine' nt_planeAt ?hm ?hP ?N ?sub ?hi ?hl ?_ ?hs; (case hm => with_reducible assumption); (case hP => with_reducible assumption); (case N => k_asm); (case sub => (repeat' (first | with_reducible assumption | exact Sub.refl | refine Sub.cons ?_ | refine Sub.app ?_))); (case hi => omega); (case hl => omega); (case hs => with_unfolding_all rfl); intro P' hP'; (obtain ⟨_, _, _, _, _, _, _, _, _, _, _, _, _, _, _, _, _, _, _, _, _⟩ := hP')) | (refine' nt_sample _ _ ?N ?hm ?hk ?hx ?_ ?hs; (case N => k_asm); (case hm => with_reducible assumption); (case hk => exact Int.zero_add _); (case hx => with_reducible assumption); (case hs => with_unfolding_all rfl); intro t9') | (refine' nt_two ?N ?hm ?h0 ?h1 _ ?hk ?hy ?_ ?hs; (case N => k_asm); (case hm => lcg_sub); (case h0 => lcg_sub); (case h1 => lcg_sub); (case hk => exact Int.zero_add _); (case hy => with_reducible assumption); (case hs => with_unfolding_all rfl); intro r9' t8' t9' n9' hm9')))
  k_with "subscriptTail Subscript Name ref int" => (k_here; (with_reducible show wpAny _ _ (subscriptTail _ _ (Value.ref _) (Value.int (0 + ((_ : Nat) : Int)) _)) _ _ _); k_dflt (first | (refine' nt_item4 ?hr ?N ?sub ?hi ?_ ?hs; (case hr => with_reducible assumption); (case N => k_asm); (case sub => (repeat' (first | with_reducible assumption | exact Sub.refl | refine Sub.cons ?_ | refine Sub.app ?_))); (case hi => with_reducible assumption); (case hs => with_unfolding_all rfl)) | (refine' nt_row ?hr ?N ?sub ?hi ?_ ?hs; (case hr => with_reducible assumption); (case N => k_asm); (case sub => (repeat' (first | with_reducible assumption | exact Sub.refl | refine Sub.cons ?_ | refine Sub.app ?_))); (case hi => with_reducible assumption); (case hs => with_unfolding_all rfl))); intros; (try dsimp only))
  k_with "subscriptTail" => (k_here; (with_reducible show wpAny _ _ (subscriptTail _ _ (Value.ref _) (Value.int (Int.fmod _ _) _)) _ _ _); (with_reducible refine stop_here ?_))
  k_with "subscriptTail" => (k_here; (with_reducible show wpAny _ _ (subscriptTail _ _ (Value.ref _) (Value.int (Int.fdiv _ _) _)) _ _ _); (with_reducible refine stop_here ?_))
  k_with "subscriptTail" => (k_here; (with_reducible show wpAny _ _ (subscriptTail _ _ (Value.ref _) (Value.int (0 + ((_ : Nat) : Int)) _)) _ _ _); k_dflt (first | (refine' nt_item4 ?hr ?N ?sub ?hi ?_ ?hs; (case hr => with_reducible assumption); (case N => k_asm); (case sub => (repeat' (first | with_reducible assumption | exact Sub.refl | refine Sub.cons ?_ | refine Sub.app ?_))); (case hi => with_reducible assumption); (case hs => with_unfolding_all rfl)) | (refine' nt_row ?hr ?N ?sub ?hi ?_ ?hs; (case hr => with_reducible assumption); (case N => k_asm); (case sub => (repeat' (first | with_reducible assumption | exact Sub.refl | refine Sub.cons ?_ | refine Sub.app ?_))); (case hi => with_reducible assumption); (case hs => with_unfolding_all rfl))); intros; (try dsimp only))
  k_with "subscriptTail Name Name ref int" => (k_here; (with_reducible show wpAny _ _ (subscriptTail _ _ (Value.ref _) (Value.int (0 + ((_ : Nat) : Int)) _)) _ _ _); k_dflt (first | (refine' nt_item4 ?hr ?N ?sub ?hi ?_ ?hs; (case hr => with_reducible assumption); (case N => k_asm); (case sub => (repeat' (first | with_reducible assumption | exact Sub.refl | refine Sub.cons ?_ | refine Sub.app ?_))); (case hi => with_reducible assumption); (case hs => with_unfolding_all rfl)) | (refine' nt_row ?hr ?N ?sub ?hi ?_ ?hs; (case hr => with_reducible assumption); (case N => k_asm); (case sub => (repeat' (first | with_reducible assumption | exact Sub.refl | refine Sub.cons ?_ | refine Sub.app ?_))); (case hi => with_reducible assumption); (case hs => with_unfolding_all rfl))); intros; (try dsimp only))
  k_with "compareOp NotEq ref ref" => (k_here; (with_reducible refine stop_here ?_))
  k_with "pyIter ref" => (k_here; (with_reducible show wpAny _ _ (pyIter (Value.ref _)) (fun it s₂ => TurnsAt _ _ _ _ _ _ _ _ _ it s₂) _ _); (with_reducible refine stop_here ?_))
  k_with "CompSrc" => (k_here; (with_reducible rename IsRange _ _ _ (Nat.cast _) _ _ _ _ => hh9); (with_reducible refine stop_here ?_))
  k_with "CompSrc" => (k_here; (with_reducible rename HoldSrc => hh9); (with_reducible refine stop_here ?_))
  unfold ConR
  k_fill
  intro mean mg mb dp un gd cn cs aa ccd cl9 outer A₀ base h₀ L m s Q E B F X9 N T9 hk hd hu XB TB hret
  obtain ⟨hp₀, gn₀, dr₀, tk₀, os₀⟩ := s
  have ne9 : LCg.Off1 src rest := off1_of hne
  refine wpAny_call ?_
  k_dflt (refine' code_defCE ?k1 ?k2 ?k3 ?k4 ?k5 ?kA ?kF ?kK ?k6 ?k7 ?k8 ?k9 ?kB ?kD ?_ ?c2 ?c3 ?c4; (case kA => exact rfl); (case kF => exact rfl); (case kK => first | exact rfl | assumption); (case k1 => k_asm); (case k2 => k_asm); (case k3 => k_asm); (case k4 => k_asm); (case k5 => k_asm); (case k6 => k_is); (case k7 => k_is); (case k8 => k_room); (case k9 => first | exact BindsTo.of_eq rfl | exact binds_K (by k_in) rfl (by k_is) rfl rfl rfl | fail "k_enter: no rule for these arguments"); (case kB => exact rfl); (case kD => decide +kernel); (case c2 => exact rfl); (case c3 => exact rfl); (case c4 => exact rfl); k_whole; intro gA LA h' tk' cells' FG' F' N' Y' B' X' T' l1; (replace l1 := allLt_of l1); k_cells Y'; (try simp only [List.cons_append, List.nil_append] at N'); (try dsimp only); (try k_lift B'); (try k_fold))
  have hMid := mid_le hp
  have hTop : 1 ≤ 2 * mid p ∧ 2 * mid p ≤ 256 := ⟨by omega, by omega⟩
  have l11 := allLt_up l1 (Nat.le_succ LA)
  have l12 := allLt_up l11 (Nat.le_succ (LA + 1))
  have l13 := allLt_up l12 (Nat.le_succ (LA + 1 + 1))
  have l14 := allLt_up l13 (Nat.le_succ (LA + 1 + 1 + 1))
  k_steps
  unfold Stop
  rename Kind _ _ _ => hkd
  rename IsRange _ _ _ _ _ _ _ _ => hrg
  rename Fr _ LA _ _ => hF
  rename News _ LA _ _ => hN
  obtain ⟨T, d, N2, hrows, mXl, mXr, mXp, hok⟩ := pr_led (p := p) hN ok0 ok1 ok2 ok3
  clear hN
  have hK := hkd.len
  obtain ⟨R0, R1, R2, R3, cR, mRL, hr0, hr1, hr2, hr3⟩ := id hrows
  refine CompSrc.range (by rfl) hF N2 hrg (small_J hK).1 (small_J hK).2.1 (small_J hK).2.2 ?_
  intro g2
  refine crest_ind (fun i ys T' => ys.length = i ∧ Sub T T' ∧ Planes w T' d ys) ?_ ?_ _ 0 [] _ (Nat.zero_add _) ⟨rfl, Sub.refl, fun _ _ e => nomatch e⟩
  · intro i ys T' hi hV v I oI C oC D m₂ h tk E' hv hC hx F N off ne
    obtain ⟨hl, sT, hPl⟩ := hV
    obtain ⟨tv, rfl⟩ := hv
    obtain ⟨ne1, ne2, ne3⟩ := ne
    have hi4 : i < 4 := by omega
    have mRL' := sT _ mRL
    have mXr' := sT _ mXr
    have mXp' := sT _ mXp
    clear mXl mXr mXp mRL
    dsimp only
    k_steps
    · rw [List.length_append, hl]; rfl
    · repeat (first | exact sT | refine Sub.cons ?_)
    · refine planes_snoc hPl hl ?_ ?_
      · repeat (first | exact Sub.refl | refine Sub.cons ?_)
      · exact ⟨_, _, _, _, _, _, _, _, _, _, _, _, _, _, _, _, by lcg_sub, by lcg_sub, by lcg_sub, by lcg_sub, by lcg_sub⟩
  · intro ys T1 hV
    obtain ⟨hl, sT, hPl⟩ := hV
    have hrows1 := hrows.sub sT
    have mXl1 := sT _ mXl
    have mXr1 := sT _ mXr
    have mXp1 := sT _ mXp
    clear hrows mXl mXr mXp mRL hr0 hr1 hr2 hr3 sT N2 hF
    k_steps
    have hlen : ys.length = _ := hl
    obtain ⟨v0, ps, rfl⟩ : ∃ v l, ys = v :: l := by
      cases ys with
      | nil => exact absurd hl (by have := hK.1; simp; omega)
      | cons v l => exact ⟨v, l, rfl⟩
    unfold Stop
    refine' Con.use (c_turn w _ _ _ _ _ _ p _ _ v0 ps d hkd ?hX ?hpl hl ?hP hp hok) ?B ?F ?X ?N ?T ?hk ?hd ?hu ?_
    case F => k_asm
    case N => k_asm
    case hX => exact ⟨_, _, _, _, _, _, by lcg_sub, by lcg_sub⟩
    case hpl => lcg_sub
    case hP => exact Planes.sub (by repeat (first | exact Sub.refl | refine Sub.cons ?_)) hPl
    case T => k_asm
    case X => k_asm
    case B => k_asm
    case hk => rfl
    case hd => ktr_room
    case hu => ktr_units
    intro Y1 ql1 qs1 o1 c1 T2 h1' tk1 RL1 pic1 mq1 lq1 pl1 s1 F1 N1
    have sT2 : Sub T1 T2 := Sub.trans (by repeat (first | exact Sub.refl | refine Sub.cons ?_)) s1
    have pic0 : PicIn w T2 _ _ p _ := ⟨_, _, _, _, _, _, s1 _ (List.mem_cons_self), s1 _ (List.mem_cons_of_mem _ List.mem_cons_self)⟩
    have mpl2 := s1 _ (List.mem_cons_of_mem _ (List.mem_cons_of_mem _ List.mem_cons_self))
    have hPl2 := Planes.sub sT2 hPl
    have hrows2 := hrows1.sub sT2
    have mXl2 := sT2 _ mXl1
    have mXr2 := sT2 _ mXr1
    have mXp2 := sT2 _ mXp1
    obtain ⟨w1, ws1, rfl⟩ : ∃ v l, qs1 = v :: l := by
      cases qs1 with
      | nil => exact absurd lq1 (by have := hK.1; simp; omega)
      | cons v l => exact ⟨v, l, rfl⟩
    clear s1 sT2 hPl hrows1 mXl1 mXr1 mXp1
    k_steps
    unfold Stop
    refine' Con.use (c_back w _ _ _ _ _ _ p _ _ w1 ws1 (fun i q => o1 i (q % 4)) hkd ?hX ?hpl lq1 ?hP hp ?ok) ?B ?F ?X ?N ?T ?hk ?hd ?hu ?_
    case F => k_asm
    case N => k_asm
    case hX => exact pic1
    case hpl => exact mq1
    case hP => exact pl1
    case ok => exact fun hx q => rel_in hkd hp (hok (q % 4)) (RL1 (q % 4) (Nat.mod_lt _ (by decide))) hx
    case T => k_asm
    case X => k_asm
    case B => k_asm
    case hk => rfl
    case hd => ktr_room
    case hu => ktr_units
    intro Y2 ql2 qs2 o2 c2 T3 h2' tk2 RL2 pic2 mq2 lq2 pl2 s2 F2 N2
    have pic0' := PicIn.sub s2 pic0
    have pic1' := PicIn.sub s2 pic1
    have mpl3 := s2 _ mpl2
    have mq1' := s2 _ mq1
    have hPl3 := Planes.sub s2 hPl2
    have pl1' := Planes.sub s2 pl1
    have hrows3 := hrows2.sub s2
    have mXl3 := s2 _ mXl2
    have mXr3 := s2 _ mXr2
    have mXp3 := s2 _ mXp2
    clear s2 pic0 pic1 mpl2 mq1 hPl2 pl1 hrows2 mXl2 mXr2 mXp2
    obtain ⟨eY1, aY1, bY1, xY1, yY1, zY1, mY1, nY1⟩ := id pic1'
    obtain ⟨eY2, aY2, bY2, xY2, yY2, zY2, mY2, nY2⟩ := id pic2
    k_steps
    refine nt_lenL (by k_asm) mq1' lq1 hK.2 ?_
    k_steps
    unfold Stop
    refine ne_ssi (by k_asm) (by lcg_sub) (by lcg_sub) hkd.ok.2 hkd.ok.1 (by units_room) ?_
    k_steps
    (with_reducible rename ∀ q, q < 4 → RelT _ _ _ _ => RL1)
    (with_reducible rename ∀ q, q < 4 → RelB _ _ _ _ => RL2)
    unfold Stop
    rename Fr _ LA _ _ => hF4
    rename News _ LA _ _ => hN4
    rename IsRange _ _ _ _ _ _ _ _ => hrg4
    obtain ⟨T4, hT4, mT4⟩ : ∃ T4, News _ LA _ T4 ∧ Sub T3 T4 := ⟨_, hN4, by repeat (first | exact Sub.refl | refine Sub.cons ?_)⟩
    have mXl4 := mT4 _ mXl3
    have hN5 := cellOut hT4 mXl4
    have kp : ∀ x o, (x, o) ∈ T3 → (∀ v, o.data ≠ .cell v) → (x, o) ∈ noCell (LA + 1 + 1 + 1 + 1) T4 := fun x o m ho => noCell_mem hT4 mXl4 (by assumption) (mT4 _ m) ho
    have ne45 : LA + 1 + 1 + 1 ≠ LA + 1 + 1 + 1 + 1 := Nat.ne_of_lt (Nat.lt_succ_self _)
    have ne35 : LA + 1 + 1 ≠ LA + 1 + 1 + 1 + 1 := Nat.ne_of_lt (Nat.lt_succ_of_lt (Nat.lt_succ_self _))
    have mXr5 : _ ∈ noCell (LA + 1 + 1 + 1 + 1) T4 := List.mem_filter.mpr ⟨mT4 _ mXr3, decide_eq_true ne45⟩
    have mXp5 : _ ∈ noCell (LA + 1 + 1 + 1 + 1) T4 := List.mem_filter.mpr ⟨mT4 _ mXp3, decide_eq_true ne35⟩
    have pic0 := PicIn.keep kp pic0'
    have pic1 := PicIn.keep kp pic1'
    have pic2' := PicIn.keep kp pic2
    have mpl5 := kp _ _ mpl3 (by intro v e; cases e)
    have mq15 := kp _ _ mq1' (by intro v e; cases e)
    have mq25 := kp _ _ mq2 (by intro v e; cases e)
    have hPl5 := Planes.keep kp hPl3
    have pl15 := Planes.keep kp pl1'
    have pl25 := Planes.keep kp pl2
    have hrows5 := RowsIn.keep kp hrows3
    have hoff5 : ∀ q ∈ noCell (LA + 1 + 1 + 1 + 1) T4, q.1 ≠ LA + 1 + 1 + 1 + 1 := noCell_off
    generalize noCell (LA + 1 + 1 + 1 + 1) T4 = T5 at *
    clear kp pic0' pic1' pic2 mpl3 mq1' mq2 hPl3 pl1' pl2 hrows3 mXl3 mXr3 mXp3 mXl4 hT4 mT4 hN4
    refine range_all (n := 4) (fun m T => m = _ ∧ ∃ oX vX, T = (LA + 1 + 1 + 1 + 1, oX) :: T5 ∧ oX.data = .cell vX) (by rfl) hrg4 (by first | decide | rfl) (by first | rfl | decide) hF4 hN5 ⟨rfl, _, ?v0, rfl, ?d0⟩ ?_ ?_
    case d0 => assumption
    · intro i I m T hi hinv hI t h tk oI F N off
      obtain ⟨rfl, oX, vX, rfl, hoX⟩ := hinv
      clear hF4 hN5
      have neIX : @Ne Nat I (LA + 1 + 1 + 1 + 1) := Ne.symm (off _ List.mem_cons_self)
      have offI : LCg.Off1 I T5 := off1_of fun q hq => off q (List.mem_cons_of_mem _ hq)
      clear off
      obtain ⟨eY1, aY1, bY1, xY1, yY1, zY1, mY1, nY1⟩ := id pic1
      have hiq1 : i / 2 < 2 := by omega
      have hiq2 : i % 2 < 2 := by omega
      have hiq3 : 2 * (i / 2) + i % 2 = i := by omega
      have ef1 : Int.fdiv (0 + (i : Int)) 2 = ((i / 2 : Nat) : Int) := by rw [Int.fdiv_eq_ediv_of_nonneg _ (by decide)]; omega
      have ef2 : Int.fmod (0 + (i : Int)) 2 = ((i % 2 : Nat) : Int) := by rw [Int.fmod_eq_emod_of_nonneg _ (by decide)]; omega
      have hold : HoldSrc := True.intro
      k_steps
      (with_reducible rename HoldSrc => hold)
      clear hold
      unfold Stop
      refine src_map (fun j y => ∃ t, y = .int (o1 j i) t) (by rfl) (by k_asm) (by k_asm) (by lcg_sub) (Nat.le_trans (by rw [lq1]; exact hK.2) (Nat.le_of_ble_eq_true rfl)) ?_ ?_
      · intro j v' I' oI' C' oC' D' oD' m' h' tk' E' hj hv hC' hx' F' N'
        obtain ⟨P', rfl, d1, rl1, r10, r11, tx1, ty1, k11, k21, k31, ta1, tb1, tc1, td1, c11, c21, c31, m11, m21, m31, m41, m51⟩ := pl15 j v' hv
        dsimp only
        k_steps
        unfold Stop
        refine nt_two (by k_asm) (by lcg_sub) (by lcg_sub) (by lcg_sub) (i / 2) ef1 hiq1 ?_
        intro r9 t8 t9 n9 hm9
        k_steps
        unfold Stop
        refine nt_sample (i / 2) (i % 2) (by k_asm) hm9 ef2 hiq2 ?_
        intro t7
        exact Reading.intro ⟨t7, by rw [hiq3, of4_at (o1 j) hi]⟩
      intro gz ys1 hly1 hyA
      dsimp only
      k_steps
      unfold Stop
      (with_reducible rename RowAt _ _ _ => hrw)
      obtain ⟨ta, tb, tc, td, nn, hrm⟩ := hrw
      refine' Con.use (c_lawt w _ _ _ _ _ (fun jj => d jj i) p _ ta tb tc td _ _ hkd ?hm hp (hok i)) ?B ?F ?X ?N ?T ?hk ?hd ?hu ?_
      case F => k_asm
      case N => k_asm
      case hm => lcg_sub
      case T => k_asm
      case X => k_asm
      case B => k_asm
      case hk => rfl
      case hd => ktr_room
      case hu => ktr_units
      intro D6 ys2 g6 c6 h6 tk6 RT6 ly6 iy6 F6 N6 o6
      k_steps
      unfold Stop
      refine ne_ints (f := fun j => o1 j i) (by k_asm) (by lcg_sub) (by lcg_sub) hyA iy6 (hly1.trans lq1) ly6 hK.2 (RelT.same hkd (RL1 i hi) RT6) (by units_room) ?_
      k_steps
      rename News _ LA _ _ => hNe
      refine turn_end (T := (LA + 1 + 1 + 1 + 1, _) :: T5) (by k_asm) hNe (by lcg_sub) (Sub.both (by lcg_sub) (by repeat (with_reducible first | exact Sub.refl | refine Sub.cons ?_))) ?o ⟨rfl, _, ?v, rfl, ?d⟩
      case d => assumption
      case o =>
        intro q hq
        rcases List.mem_cons.mp hq with rfl | hq
        · exact Ne.symm neIX
        · exact off1_all offI q hq
    · intro m T h tk hinv F N
      obtain ⟨rfl, oX, vX, rfl, hoX⟩ := hinv
      clear hF4 hN5
      have hNt : News gA LA h T5 := fun q hq => N q (List.mem_cons_of_mem _ hq)
      clear N
      obtain ⟨eY2, aY2, bY2, xY2, yY2, zY2, mY2, nY2⟩ := id pic2'
      obtain ⟨eY1, aY1, bY1, xY1, yY1, zY1, mY1, nY1⟩ := id pic1
      k_steps
      unfold Stop
      rename Fr _ LA _ _ => hF6
      rename News _ LA _ _ => hN6
      rename IsRange _ _ _ _ _ _ _ _ => hrg6
      have nab : Str.ofString "at" ≠ Str.ofString "y" := by decide +kernel
      have nac : Str.ofString "at" ≠ Str.ofString "x" := by decide +kernel
      have nbc : Str.ofString "y" ≠ Str.ofString "x" := by decide +kernel
      refine range_all (fun m T => T = T5 ∧ ∃ va vy vx, m = over3 (Str.ofString "at") (Str.ofString "y") (Str.ofString "x") va vy vx _) (by rfl) hrg6 (small_J hK).1 (small_J hK).2.1 hF6 hN6 ⟨rfl, _, _, _, over_0⟩ ?_ ?_
      · intro i I m T hi hinv hI t h tk oI F N off
        obtain ⟨rfl, va, vy, vx, rfl⟩ := hinv
        have offI : LCg.Off1 I T := off1_of off
        clear hF6 hN6 off
        k_steps
        unfold Stop
        rename Fr _ LA _ _ => hF7
        rename News _ LA _ _ => hN7
        rename IsRange _ _ _ _ _ _ _ _ => hrg7
        rw [over_a nab nac] at hF7
        refine range_all (n := 2) (fun m T' => T' = (I, oI) :: T ∧ ∃ vy vx, m = over3 (Str.ofString "at") (Str.ofString "y") (Str.ofString "x") _ vy vx _) (by rfl) hrg7 (by first | decide | rfl) (by first | rfl | decide) hF7 hN7 ⟨rfl, _, _, rfl⟩ ?_ ?_
        · intro i2 I2 m2 T2' hi2 hinv2 hI2 t2 h2 tk2 oI2 F2 N2 off2
          obtain ⟨rfl, vy, vx, rfl⟩ := hinv2
          have offI2 : LCg.Off1 I2 ((I, oI) :: T) := off1_of off2
          clear hF7 hN7 off2
          k_steps
          unfold Stop
          rename Fr _ LA _ _ => hF8
          rename News _ LA _ _ => hN8
          rename IsRange _ _ _ _ _ _ _ _ => hrg8
          rw [over_b nbc] at hF8
          refine range_all (n := 2) (fun m T' => T' = (I2, oI2) :: (I, oI) :: T ∧ ∃ vx, m = over3 (Str.ofString "at") (Str.ofString "y") (Str.ofString "x") _ _ vx _) (by rfl) hrg8 (by first | decide | rfl) (by first | rfl | decide) hF8 hN8 ⟨rfl, _, rfl⟩ ?_ ?_
          · intro i3 I3 m3 T3' hi3 hinv3 hI3 t3 h3 tk3 oI3 F3 N3 off3
            obtain ⟨rfl, vx, rfl⟩ := hinv3
            have offI3 : LCg.Off1 I3 ((I2, oI2) :: (I, oI) :: T) := off1_of off3
            clear hF8 hN8 off3
            obtain ⟨nr1, nr2⟩ := near_all hkd hp hok RL1 RL2 i hi i2 hi2 i3 hi3
            k_steps
            rename News _ LA _ _ => hNe
            refine turn_end (T := (I2, oI2) :: (I, oI) :: T) (by k_asm) hNe (by lcg_sub) (by repeat (with_reducible first | exact Sub.refl | refine Sub.both (by lcg_sub) ?_ | refine Sub.cons ?_)) (off1_all offI3) ⟨rfl, _, over_c⟩
          · intro m T' h tk hinv F N
            obtain ⟨rfl, vx, rfl⟩ := hinv
            clear hF8 hN8
            k_steps
            rename News _ LA _ _ => hNe
            refine turn_end (T := (I, oI) :: T) (by k_asm) hNe (by lcg_sub) (by repeat (with_reducible first | exact Sub.refl | refine Sub.both (by lcg_sub) ?_ | refine Sub.cons ?_)) (off1_all offI2) ⟨rfl, _, _, rfl⟩
        · intro m T' h tk hinv F N
          obtain ⟨rfl, vy, vx, rfl⟩ := hinv
          clear hF7 hN7
          k_steps
          rename News _ LA _ _ => hNe
          refine turn_end (T := T) (by k_asm) hNe (by lcg_sub) (by repeat (with_reducible first | exact Sub.refl | refine Sub.both (by lcg_sub) ?_ | refine Sub.cons ?_)) (off1_all offI) ⟨rfl, _, _, _, rfl⟩
      · intro m T h tk hinv F N
        obtain ⟨rfl, va, vy, vx, rfl⟩ := hinv
        clear hF6 hN6
        k_steps
        rotate_left 1
        · unfold Stop
          refine' ConR.use (c_ref w _ _ _ _ _ _ _ p _ hkd ?hX ?hy) ?B ?F ?X ?N ?T ?hk ?hd ?hu XB TB ?_
          case F => k_asm
          case N => k_asm
          case hX => exact pic0
          case hy => first | exact Or.inl ⟨by with_reducible assumption, rfl⟩ | exact Or.inr ⟨by with_reducible assumption, rfl⟩
          case T => k_asm
          case X => k_asm
          case B => k_asm
          case hk => rfl
          case hd => ktr_room
          case hu => ktr_units
          exact fun _ _ hz => hret _ _ hz
        · unfold Stop
          refine' ConR.use (c_ref w _ _ _ _ _ _ _ p _ hkd ?hX ?hy) ?B ?F ?X ?N ?T ?hk ?hd ?hu XB TB ?_
          case F => k_asm
          case N => k_asm
          case hX => exact pic0
          case hy => first | exact Or.inl ⟨by with_reducible assumption, rfl⟩ | exact Or.inr ⟨by with_reducible assumption, rfl⟩
          case T => k_asm
          case X => k_asm
          case B => k_asm
          case hk => rfl
          case hd => ktr_room
          case hu => ktr_units
          exact fun _ _ hz => hret _ _ hz
        (with_reducible rename (_ == Str.ofString "rgb") = true => hrgb)
        have hx9 := eq_of_beq hrgb
        have hK3 := hkd.three hx9
        unfold Stop
        refine' Con.use (c_tpg_rgb_grey w _ _ _ p _ _ _ _ d ?hX mpl5 (hlen.trans hK3) hPl5 hp hok) ?B ?F ?X ?N ?T ?hk ?hd ?hu ?_
        case F => k_asm
        case N => k_asm
        case hX => rw [hx9] at pic0; exact pic0
        case T => k_asm
        case X => k_asm
        case B => k_asm
        case hk => rfl
        case hd => ktr_room
        case hu => ktr_units
        intro Y3 ql3 qs3 o3 c3 T6 h3' tk3 RL3 pic3 mq3 lq3 pl3 s3 F3 N3
        obtain ⟨q0, rfl⟩ := one_of lq3
        obtain ⟨P3, rfl, d3, rl3, r30, r31, tx3, ty3, k13, k23, k33, ta3, tb3, tc3, td3, c13, c23, c33, m13, m23, m33, m43, m53⟩ := pl3 0 _ rfl
        obtain ⟨P1, rfl, d1, rl1, r10, r11, tx1, ty1, k11, k21, k31, ta1, tb1, tc1, td1, c11, c21, c31, m11, m21, m31, m41, m51⟩ := Planes.sub s3 pl15 0 _ rfl
        have mq16 := s3 _ mq15
        have mY16 := s3 _ mY1
        have nY16 := s3 _ nY1
        have pic06 := PicIn.sub s3 pic0
        obtain ⟨eY3, aY3, bY3, xY3, yY3, zY3, mY3, nY3⟩ := id pic3
        k_steps
        have heq : ∀ q, q < 4 → o3 0 q = o1 0 q := fun q hq => (RL3 q hq).trans ((RL1 q hq).rgb hx9).1.symm
        unfold Stop
        refine ne_rows (by k_asm) (by lcg_sub) (by lcg_sub) (by lcg_sub) (by lcg_sub) (by lcg_sub) (by lcg_sub) (heq 0 (by decide)) (heq 1 (by decide)) (heq 2 (by decide)) (heq 3 (by decide)) (by units_room) ?_
        k_steps
        all_goals
          unfold Stop
          refine' ConR.use (c_ref w _ _ _ _ _ _ _ p _ hkd ?hX ?hy) ?B ?F ?X ?N ?T ?hk ?hd ?hu XB TB ?_
          case F => k_asm
          case N => k_asm
          case hX => exact pic06
          case hy => first | exact Or.inl ⟨by with_reducible assumption, rfl⟩ | exact Or.inr ⟨by with_reducible assumption, rfl⟩
          case T => k_asm
          case X => k_asm
          case B => k_asm
          case hk => rfl
          case hd => ktr_room
          case hu => ktr_units
          exact fun _ _ hz => hret _ _ hz
end
-- NtLaw
section
open PySem PySem.W PySem.Spec PySem.Calls PyProof.Rows PySem.SeqAt PyProof.Rows.LCg
def PoolEnd (h₀ : Heap) (L : Addr) (m : Str → Option Value) (s : Shared) (news : Led) (v : Value) (s' : Shared) : Prop :=
  ∃ (D : Addr) (i j : Int) (ti tj : Tok) (c : Nat) (h' : Heap) (tk' : Nat), v = .ref D ∧ s' = { s with heap := h', toks := tk' } ∧ 0 ≤ i ∧ (0 ≤ j ∧ j < 2147483647) ∧ Fr h₀ L h' m ∧ News h₀ L h' ((D, srcObj c i j ti tj) :: news) ∧ Off1 D news
theorem PoolEnd.intro {h₀ h' : Heap} {L D : Addr} {m : Str → Option Value} {s : Shared} {news : Led} {tk' c : Nat} {i j : Int} {ti tj : Tok} (F : Fr h₀ L h' m) (N : News h₀ L h' ((D, srcObj c i j ti tj) :: news)) (hi : 0 ≤ i) (hj : 0 ≤ j ∧ j < 2147483647) (o : Off1 D news) :
    PoolEnd h₀ L m s news (.ref D) { s with heap := h', toks := tk' } := ⟨D, i, j, ti, tj, c, h', tk', rfl, rfl, hi, hj, F, N, o⟩
theorem PoolEnd.intro2 {h₀ h' : Heap} {L D : Addr} {m : Str → Option Value} {s : Shared} {news all : Led} {tk' c : Nat} {i j : Int} {ti tj : Tok} (F : Fr h₀ L h' m) (N : News h₀ L h' all) (hm : (D, listOf #[.int i ti, .int j tj] c) ∈ all) (hs : Sub news all) (hi : 0 ≤ i) (hj : 0 ≤ j ∧ j < 2147483647) (o : Off1 D news) :
    PoolEnd h₀ L m s news (.ref D) { s with heap := h', toks := tk' } := PoolEnd.intro F (fun q hq => by
      rcases List.mem_cons.mp hq with rfl | hq
      · exact N _ hm
      · exact N _ (hs _ hq)) hi hj o
theorem pool_cut {M : Model} {A : Around} {t : Sem Value} {Q : Value → Shared → Prop} {E : Value → Shared → Prop} {s : Shared} {h₀ : Heap} {L : Addr} {m : Str → Option Value} {news : Led} (_F : Fr h₀ L s.heap m) (_N : News h₀ L s.heap news) (h : wpAny M A t (PoolEnd h₀ L m s news) E s)
    (k : ∀ (D : Addr) (i j : Int) (ti tj : Tok) (c : Nat) (h' : Heap) (tk' : Nat), 0 ≤ i → (0 ≤ j ∧ j < 2147483647) → Fr h₀ L h' m → News h₀ L h' ((D, srcObj c i j ti tj) :: news) → Off1 D news → Q (.ref D) { s with heap := h', toks := tk' }) : wpAny M A t Q E s :=
  wpAny_mono h (fun _ _ ⟨D, i, j, ti, tj, c, h', tk', ev, es, hi, hj, F, N, o⟩ => by subst ev es; exact k D i j ti tj c h' tk' hi hj F N o) fun _ _ e => e
theorem goodB {c : ClaimW} {cl : Str → Option Addr} {mean : ExcName → Option Value} {args : List WData} {s₁ s' : Shared} {b : Bool} (k : ∀ b o, s₁.heap.get? b = some o → s'.heap.get? b = some o) (hg : s'.gens = #[]) (hn : ∀ cls, c.raises args cls = false) (hp : c.post args (.bool b) args = true) (hos : s'.os = s₁.os := by rfl) :
    GoodW c cl mean args s₁ (.ok (.ret (.bool b))) s' := ⟨.inl ⟨.bool b, .bool b, [], rfl, hn, .bool b, hp, unshared_nil⟩, k, hos, hg⟩
theorem pool_hi (x : Int) (b : Bool) : 0 ≤ (if -1 - x > x then -1 - x else x) * (if b = true then 1 else 0) := by
  have h : 0 ≤ (if -1 - x > x then -1 - x else x) := by split <;> omega
  cases b
  · have e : (if false = true then (1 : Int) else 0) = 0 := rfl
    rw [e, Int.mul_zero]; exact Int.le_refl _
  · have e : (if true = true then (1 : Int) else 0) = 1 := rfl
    rw [e, Int.mul_one]; exact h
theorem mid_top {p : Int} (h : 2 ≤ p ∧ p ≤ 8) : 3 ≤ 2 * mid p - 1 ∧ 2 * mid p - 1 ≤ 255 := by have := mid_le h; omega
theorem mid_top2 {p : Int} (h : 2 ≤ p ∧ p ≤ 8) : 1 ≤ 2 * mid p ∧ 2 * mid p ≤ 256 := by have := mid_le h; omega

set_option Elab.async true in
theorem law_holds : PySem.Challenge.rw_nt0553_01.Holds := by
  w_on
  o_law
  o_head (kHook pre.heap_1 [2, 3, 15, 17, 18, 20, 21, 22, 29, 31, 32, 34, 35, 36, 37, 38, 39, 42, 49, 50, 51, 61, 63, 64, 66, 67, 68, 70, 71, 73, 74, 75, 77, 78, 80, 81, 82, 83, 84, 85, 86, 96, 98, 99, 101, 102, 103, 106, 107, 108, 111, 112, 113, 115, 116, 118, 119, 120, 121, 122, 123, 124, 127, 129, 130, 132, 133, 134, 136, 137, 139, 140, 141, 143, 144, 146, 147, 148, 150, 151, 153, 154, 155, 158, 159, 160, 161, 162, 163, 165, 166, 168, 169, 170, 172, 173, 175, 176, 177, 179, 180, 182, 183, 184, 186, 187, 189, 190, 191, 193, 194, 196, 197, 198, 200, 201, 203, 204, 212, 214, 215, 217, 218, 219, 221, 222, 224, 225, 226, 227, 228, 229, 230, 233, 235, 236, 238, 239, 240, 243, 244, 245, 248, 249, 250, 253, 254, 255, 257, 258, 260, 261, 262, 264, 265, 267, 268, 269, 271, 272, 274, 275, 276, 278, 279, 281, 282, 283, 286, 287, 288, 290, 291, 293, 294, 295, 298, 299, 300, 303, 304, 305, 307, 308, 310, 311, 312, 314, 315, 317, 318, 319, 322, 323, 324, 327, 328] (fun _ => by kernel_rfl))
  (case hw => w_witness2)
  change WalkO pre.view_1 _ _ _ _ _ _ _
  w_top off
  k_with_none
  k_with "k_room" => skip
  k_with "units_room" => skip
  k_with "k_all" => ((repeat ((refine' List.forall_mem_cons.mpr ⟨?ha, ?_⟩); (case ha => k_ne))); (first | exact List.forall_mem_nil _ | assumption | exact off1_all (by assumption) | exact allLt_ne (by assumption) (by (try dsimp only); omega) | ((with_reducible rename _ ∧ AllLt _ _ => hx9); exact allLt_ne hx9.2 (by (try dsimp only); omega)) | ((with_reducible rename _ ∧ _ ∧ AllLt _ _ => hx9); exact allLt_ne hx9.2.2 (by (try dsimp only); omega)) | ((with_reducible rename _ ∧ _ ∧ _ ∧ AllLt _ _ => hx9); exact allLt_ne hx9.2.2.2 (by (try dsimp only); omega))))
  k_with "lcg_sub" => first | with_reducible assumption | ((with_reducible (repeat' (first | exact List.mem_cons_self | refine List.mem_cons_of_mem _ ?_ | refine List.mem_append_right _ ?_ | assumption))); done)
  k_with "k_mem" => first | with_reducible assumption | ((with_reducible (repeat' (first | exact List.mem_cons_self | refine List.mem_cons_of_mem _ ?_ | refine List.mem_append_right _ ?_ | assumption))); done)
  k_with "lcg_off" => first | exact True.intro | with_reducible assumption | (refine And.intro (by first | with_reducible assumption | exact ⟨by k_ne, by k_ne, by k_ne⟩) ?_; lcg_off) | exact off3_sub (by with_reducible assumption) (by (repeat' (first | with_reducible assumption | exact Sub.refl | refine Sub.cons ?_ | refine Sub.app ?_)))
  k_with "k_lt" => skip
  k_with "k_ne" => (refine neN ?_; (try dsimp only); first | with_reducible assumption | exact Ne.symm (by with_reducible assumption) | exact o_gt (by with_reducible assumption) (by lcg_sub) | exact o_1' (by with_reducible assumption) (by lcg_sub) | exact o_lt (by with_reducible assumption) (by lcg_sub) | exact o_1 (by with_reducible assumption) (by lcg_sub) | exact o_3I (by with_reducible assumption) (by lcg_sub) | exact Ne.symm (o_3I (by with_reducible assumption) (by lcg_sub)) | exact o_3C (by with_reducible assumption) (by lcg_sub) | exact Ne.symm (o_3C (by with_reducible assumption) (by lcg_sub)) | exact o_3D (by with_reducible assumption) (by lcg_sub) | exact Ne.symm (o_3D (by with_reducible assumption) (by lcg_sub)) | exact o_4I (by with_reducible assumption) (by lcg_sub) | exact Ne.symm (o_4I (by with_reducible assumption) (by lcg_sub)) | exact o_4C (by with_reducible assumption) (by lcg_sub) | exact Ne.symm (o_4C (by with_reducible assumption) (by lcg_sub)) | exact o_4X (by with_reducible assumption) (by lcg_sub) | exact Ne.symm (o_4X (by with_reducible assumption) (by lcg_sub)) | exact o_4D (by with_reducible assumption) (by lcg_sub) | exact Ne.symm (o_4D (by with_reducible assumption) (by lcg_sub)) | ((repeat (first | exact cn1 | exact cn2 | exact cn3 | exact cn4 | exact cn5 | exact cn6 | exact cn7 | exact Ne.symm cn1 | exact Ne.symm cn2 | exact Ne.symm cn3 | exact Ne.symm cn4 | exact Ne.symm cn5 | exact Ne.symm cn6 | exact Ne.symm cn7 | refine cnS ?_)); done))
  k_with "k_all" => ((repeat ((refine' List.forall_mem_cons.mpr ⟨?ha, ?_⟩); (case ha => k_ne))); (first | exact List.forall_mem_nil _ | with_reducible assumption | exact all_lt (by with_reducible assumption) (by (repeat' (first | with_reducible assumption | exact Sub.refl | refine Sub.cons ?_ | refine Sub.app ?_))) | exact all_1 (by with_reducible assumption) (by (repeat' (first | with_reducible assumption | exact Sub.refl | refine Sub.cons ?_ | refine Sub.app ?_))) | exact all_3I (by with_reducible assumption) (by (repeat' (first | with_reducible assumption | exact Sub.refl | refine Sub.cons ?_ | refine Sub.app ?_))) | exact all_3C (by with_reducible assumption) (by (repeat' (first | with_reducible assumption | exact Sub.refl | refine Sub.cons ?_ | refine Sub.app ?_))) | exact all_3D (by with_reducible assumption) (by (repeat' (first | with_reducible assumption | exact Sub.refl | refine Sub.cons ?_ | refine Sub.app ?_))) | exact all_4I (by with_reducible assumption) (by (repeat' (first | with_reducible assumption | exact Sub.refl | refine Sub.cons ?_ | refine Sub.app ?_))) | exact all_4C (by with_reducible assumption) (by (repeat' (first | with_reducible assumption | exact Sub.refl | refine Sub.cons ?_ | refine Sub.app ?_))) | exact all_4X (by with_reducible assumption) (by (repeat' (first | with_reducible assumption | exact Sub.refl | refine Sub.cons ?_ | refine Sub.app ?_))) | exact all_4D (by with_reducible assumption) (by (repeat' (first | with_reducible assumption | exact Sub.refl | refine Sub.cons ?_ | refine Sub.app ?_))) | exact allLt_ne (by with_reducible assumption) (by repeat (first | exact Nat.le_refl _ | refine Nat.le_succ_of_le ?_))))
  k_with "k_enter" => skip
  k_with "FinE" => ((unfold LCg.FinE); intro D' h' tk' F' N' o1'; (try simp only [List.nil_append, List.cons_append] at N'); (try dsimp only))
  k_with "FinA" => ((unfold LCg.FinA); intro D' h' tk' F' N' o1'; (try simp only [List.nil_append, List.cons_append] at N'); (try dsimp only))
  k_with "CompEnd" => (refine' nt_compEnd ?F ?N ?P1 ?P2 ?P3 ?off ?S ?_; (case F => assumption); (case N => assumption); (case P1 => repeat' (first | exact Pick.head | refine' Pick.tail ?_)); (case P2 => repeat' (first | exact Pick.head | refine' Pick.tail ?_)); (case P3 => repeat' (first | exact Pick.head | refine' Pick.tail ?_)); (case off => lcg_off); (case S => first | lcg_src | assumption))
  k_with "eval ListComp" => (k_here; (with_reducible show wpAny _ _ (eval (PySem.Expr.ListComp _ [⟨PySem.Expr.Name _ _, _, [], _⟩] _ _) _) _ _ _); (try k_fold); k_dflt (refine LCg.ListComp_U (F₀ := by k_asm) (by with_unfolding_all rfl) (by decide) (by rfl) (by decide) (by rfl) ?_))
  k_with "exec Assign cons ListComp" => (k_here; k_dflt (refine LCg.Assign_ListComp_U (F₀ := by k_asm) (by rfl) (by with_unfolding_all rfl) (by with_unfolding_all rfl) (by decide) (by rfl) (by decide) (by rfl) (by rfl) (by rfl) ?_))
  k_with "eval ListComp" => (k_here; (with_reducible show wpAny _ _ (eval (PySem.Expr.ListComp _ [⟨PySem.Expr.Name _ _, _, [_], _⟩] _ _) _) _ _ _); (try k_fold); k_dflt (refine LCt.ListComp_T (F₀ := by k_asm) (by with_unfolding_all rfl) (by decide) (by rfl) (by decide) (by rfl) ?_))
  k_with "CompSrcT" => (k_here; k_dflt (first | (refine LCt.CompSrcT.ledger (by rfl) (by k_asm) (by k_asm) (by lcg_sub) (by first | exact Nat.le_of_ble_eq_true rfl | size_fits) ?_; intro g'; first | lct_lit | skip) | (refine LCt.CompSrcT.range (by rfl) (by k_asm) (by k_asm) (by assumption) (by first | decide | rfl) (by first | rfl | decide) (by first | exact Nat.le_of_ble_eq_true rfl | size_fits) ?_; intro g'; first | lct_lit | skip)))
  k_with "CompRestT" => (with_unfolding_all first | (refine LCt.CompRestT.succ ?_; intro v' I' oI' C' oC' D' m' h' tk' E' hv' hC' hx' F' N' off' ne'; (first | lcg_open hv' | (obtain ⟨t9', hv9'⟩ := hv'; subst hv9')); (obtain ⟨ne1', ne2', ne3'⟩ := ne')) | refine LCt.CompRestT.zero ?_)
  k_with "CompSrc" => (k_here; k_dflt (first | (refine LCg.CompSrc.ledger (by rfl) (by k_asm) (by k_asm) (by lcg_sub) (by first | exact Nat.le_of_ble_eq_true rfl | size_fits) ?_; intro g'; lcg_lit) | (refine LCg.CompSrc.range (by rfl) (by k_asm) (by k_asm) (by assumption) (by first | decide | rfl) (by first | rfl | decide) (by first | exact Nat.le_of_ble_eq_true rfl | size_fits) ?_; intro g'; lcg_lit)))
  k_with "CompRest" => (with_unfolding_all first | (refine LCg.CompRest.succ ?_; intro v' I' oI' C' oC' D' m' h' tk' E' hv' hC' hx' F' N' off' ne'; (first | lcg_open hv' | (obtain ⟨t9', hv9'⟩ := hv'; subst hv9')); (obtain ⟨ne1', ne2', ne3'⟩ := ne')) | refine LCg.CompRest.zero ?_)
  k_with "execs cons" => ((with_reducible refine gen_toks (fun tk => ?_)); (with_reducible refine wpAny_execs_cons ?_); (try dsimp only); (try k_fold))
  k_with "subscriptTail" => (k_here; (with_reducible show wpAny _ _ (subscriptTail _ _ (Value.ref _) (Value.int _ _)) _ _ _); k_dflt (first | (refine' nt_item ?N ?hm ?k2 ?k3 ?k4 ?_ ?k6; (case N => k_asm); (case hm => lcg_sub); (case k2 => decide); (case k3 => decide); (case k4 => exact rfl); (case k6 => with_unfolding_all rfl); k_whole) | (refine' nt_itemK ?X ?F ?hl ?k2 ?k3 ?k4 ?_ ?k6 ?k7; (case F => k_asm); (case X => k_asm); (case hl => k_is); (case k2 => decide); (case k3 => decide); (case k4 => exact rfl); (case k6 => with_unfolding_all rfl); (case k7 => intro _; with_unfolding_all rfl); k_whole) | (refine' nt_itemT ?N ?hm ?k2 ?k3 ?k4 ?_ ?k6 ?k7; (case N => k_asm); (case hm => lcg_sub); (case k2 => decide); (case k3 => decide); (case k4 => exact rfl); (case k6 => with_unfolding_all rfl); (case k7 => intro _; with_unfolding_all rfl); k_whole)))
  k_with "subscriptTail Name Constant ref int" => (k_here; (with_reducible show wpAny _ _ (subscriptTail _ _ (Value.ref _) (Value.int _ _)) _ _ _); k_dflt (first | (refine' nt_item ?N ?hm ?k2 ?k3 ?k4 ?_ ?k6; (case N => k_asm); (case hm => lcg_sub); (case k2 => decide); (case k3 => decide); (case k4 => exact rfl); (case k6 => with_unfolding_all rfl); k_whole) | (refine' nt_itemK ?X ?F ?hl ?k2 ?k3 ?k4 ?_ ?k6 ?k7; (case F => k_asm); (case X => k_asm); (case hl => k_is); (case k2 => decide); (case k3 => decide); (case k4 => exact rfl); (case k6 => with_unfolding_all rfl); (case k7 => intro _; with_unfolding_all rfl); k_whole) | (refine' nt_itemT ?N ?hm ?k2 ?k3 ?k4 ?_ ?k6 ?k7; (case N => k_asm); (case hm => lcg_sub); (case k2 => decide); (case k3 => decide); (case k4 => exact rfl); (case k6 => with_unfolding_all rfl); (case k7 => intro _; with_unfolding_all rfl); k_whole)))
  k_with "subscriptTail Name Name ref int" => (k_here; (with_reducible show wpAny _ _ (subscriptTail _ _ (Value.ref _) (Value.int _ _)) _ _ _); k_dflt (first | (refine' nt_item ?N ?hm ?k2 ?k3 ?k4 ?_ ?k6; (case N => k_asm); (case hm => lcg_sub); (case k2 => decide); (case k3 => decide); (case k4 => exact rfl); (case k6 => with_unfolding_all rfl); k_whole) | (refine' nt_itemK ?X ?F ?hl ?k2 ?k3 ?k4 ?_ ?k6 ?k7; (case F => k_asm); (case X => k_asm); (case hl => k_is); (case k2 => decide); (case k3 => decide); (case k4 => exact rfl); (case k6 => with_unfolding_all rfl); (case k7 => intro _; with_unfolding_all rfl); k_whole) | (refine' nt_itemT ?N ?hm ?k2 ?k3 ?k4 ?_ ?k6 ?k7; (case N => k_asm); (case hm => lcg_sub); (case k2 => decide); (case k3 => decide); (case k4 => exact rfl); (case k6 => with_unfolding_all rfl); (case k7 => intro _; with_unfolding_all rfl); k_whole)))
  k_with "subscriptTail Attribute Name Constant ref int" => (k_here; (with_reducible show wpAny _ _ (subscriptTail _ _ (Value.ref _) (Value.int _ _)) _ _ _); k_dflt (first | (refine' nt_item ?N ?hm ?k2 ?k3 ?k4 ?_ ?k6; (case N => k_asm); (case hm => lcg_sub); (case k2 => decide); (case k3 => decide); (case k4 => exact rfl); (case k6 => with_unfolding_all rfl); k_whole) | (refine' nt_itemK ?X ?F ?hl ?k2 ?k3 ?k4 ?_ ?k6 ?k7; (case F => k_asm); (case X => k_asm); (case hl => k_is); (case k2 => decide); (case k3 => decide); (case k4 => exact rfl); (case k6 => with_unfolding_all rfl); (case k7 => intro _; with_unfolding_all rfl); k_whole) | (refine' nt_itemT ?N ?hm ?k2 ?k3 ?k4 ?_ ?k6 ?k7; (case N => k_asm); (case hm => lcg_sub); (case k2 => decide); (case k3 => decide); (case k4 => exact rfl); (case k6 => with_unfolding_all rfl); (case k7 => intro _; with_unfolding_all rfl); k_whole)))
  k_with "subscriptTail Attribute Name Name ref int" => (k_here; (with_reducible show wpAny _ _ (subscriptTail _ _ (Value.ref _) (Value.int _ _)) _ _ _); k_dflt (first | (refine' nt_item ?N ?hm ?k2 ?k3 ?k4 ?_ ?k6; (case N => k_asm); (case hm => lcg_sub); (case k2 => decide); (case k3 => decide); (case k4 => exact rfl); (case k6 => with_unfolding_all rfl); k_whole) | (refine' nt_itemK ?X ?F ?hl ?k2 ?k3 ?k4 ?_ ?k6 ?k7; (case F => k_asm); (case X => k_asm); (case hl => k_is); (case k2 => decide); (case k3 => decide); (case k4 => exact rfl); (case k6 => with_unfolding_all rfl); (case k7 => intro _; with_unfolding_all rfl); k_whole) | (refine' nt_itemT ?N ?hm ?k2 ?k3 ?k4 ?_ ?k6 ?k7; (case N => k_asm); (case hm => lcg_sub); (case k2 => decide); (case k3 => decide); (case k4 => exact rfl); (case k6 => with_unfolding_all rfl); (case k7 => intro _; with_unfolding_all rfl); k_whole)))
  k_with "subscriptTail Subscript Name ref int" => (k_here; (with_reducible show wpAny _ _ (subscriptTail _ _ (Value.ref _) (Value.int _ _)) _ _ _); k_dflt (first | (refine' nt_item ?N ?hm ?k2 ?k3 ?k4 ?_ ?k6; (case N => k_asm); (case hm => lcg_sub); (case k2 => decide); (case k3 => decide); (case k4 => exact rfl); (case k6 => with_unfolding_all rfl); k_whole) | (refine' nt_itemK ?X ?F ?hl ?k2 ?k3 ?k4 ?_ ?k6 ?k7; (case F => k_asm); (case X => k_asm); (case hl => k_is); (case k2 => decide); (case k3 => decide); (case k4 => exact rfl); (case k6 => with_unfolding_all rfl); (case k7 => intro _; with_unfolding_all rfl); k_whole) | (refine' nt_itemT ?N ?hm ?k2 ?k3 ?k4 ?_ ?k6 ?k7; (case N => k_asm); (case hm => lcg_sub); (case k2 => decide); (case k3 => decide); (case k4 => exact rfl); (case k6 => with_unfolding_all rfl); (case k7 => intro _; with_unfolding_all rfl); k_whole)))
  k_with "subscriptTail Subscript Constant ref int" => (k_here; (with_reducible show wpAny _ _ (subscriptTail _ _ (Value.ref _) (Value.int _ _)) _ _ _); k_dflt (first | (refine' nt_item ?N ?hm ?k2 ?k3 ?k4 ?_ ?k6; (case N => k_asm); (case hm => lcg_sub); (case k2 => decide); (case k3 => decide); (case k4 => exact rfl); (case k6 => with_unfolding_all rfl); k_whole) | (refine' nt_itemK ?X ?F ?hl ?k2 ?k3 ?k4 ?_ ?k6 ?k7; (case F => k_asm); (case X => k_asm); (case hl => k_is); (case k2 => decide); (case k3 => decide); (case k4 => exact rfl); (case k6 => with_unfolding_all rfl); (case k7 => intro _; with_unfolding_all rfl); k_whole) | (refine' nt_itemT ?N ?hm ?k2 ?k3 ?k4 ?_ ?k6 ?k7; (case N => k_asm); (case hm => lcg_sub); (case k2 => decide); (case k3 => decide); (case k4 => exact rfl); (case k6 => with_unfolding_all rfl); (case k7 => intro _; with_unfolding_all rfl); k_whole)))
  k_with "setItem ref int" => (k_here; k_dflt (refine' ki_set ?F ?N ?k2 ?k3 ?k4 ?U ?_; (case F => k_asm); (case N => k_asm); (case U => k_upd); (case k2 => decide); (case k3 => decide); (case k4 => exact rfl); k_whole); intro h' F' N'; (try k_sweep))
  k_with "eval Name" => (k_here; (with_reducible show wpAny _ _ (eval (Expr.Name _ _) (envOf _ _ _ _ _)) _ _ _); (with_reducible rename Fr _ _ _ _ => kF); k_dflt (first | (name_kind "local"; (refine' ld kF ?k2 ?_ ?a ?b ?c; (case k2 => exact rfl); (case a => kernel_rfl!); (case b => kernel_rfl!); (case c => decide +kernel)); k_whole) | (name_kind "globalImplicit"; (refine' name_K kF ?k1 ?k2 ?k3 ?_ ?a ?b ?c; (case k1 => k_asm); (case k2 => k_asm); (case k3 => k_is); (case a => kernel_rfl!); (case b => kernel_rfl!); (case c => decide +kernel); k_whole)) | (refine' name_B kF ?k1 ?k2 ?k3 ?k4 ?k5 ?_; (case k1 => k_asm); (case k2 => k_asm); (case k3 => k_is); (case k4 => boot_by_name); (case k5 => decide); k_whole)))
  k_with "call ref" => (k_here; (with_reducible show wpAny _ _ (call (Value.ref 275) _) _ _ _); k_dflt (refine' Con.use (c_take0 _ _ _ _ _ _ _ _ ?ne _ _ ?h0 ?hj ?ht) ?B ?F ?X ?N ?T ?hk ?hd ?hu ?_; (case F => k_asm); (case N => (refine' nt_pick ?N1 ?P1; (case N1 => k_asm); (case P1 => repeat' (first | exact Pick.head | refine' Pick.tail ?_)))); (case ne => k_all); (case h0 => first | assumption | omega); (case hj => first | assumption | omega); (case ht => first | with_reducible assumption | omega | exact mid_top2 ⟨by omega, by omega⟩); (case T => k_asm); (case X => k_asm); (case B => k_asm); (case hk => first | exact rfl | assumption); (case hd => ktr_room); (case hu => ktr_units); k_whole); intro d' i' j' td' ti' tj' h' tk' hi' hj' hd0' hd1' F' N'; (try k_sweep))
  k_with "compareOp NotEq ref ref" => (k_here; k_dflt (first | (with_reducible refine' ne_t3 ?N ?ha ?hb ?e1 ?e2 ?e3 ?hu ?_; (case N => k_asm); (case ha => lcg_sub); (case hb => lcg_sub); (case e1 => first | assumption | exact (Grey.h (by assumption) (by assumption) (by assumption)).1 | exact (Grey2.h (by assumption) (by assumption) (by assumption)).1 | rfl); (case e2 => first | assumption | exact (Grey.h (by assumption) (by assumption) (by assumption)).2.1 | exact (Grey2.h (by assumption) (by assumption) (by assumption)).2.1 | rfl); (case e3 => first | assumption | exact (Grey.h (by assumption) (by assumption) (by assumption)).2.2 | exact (Grey2.h (by assumption) (by assumption) (by assumption)).2.2 | rfl); (case hu => units_room)) | (with_reducible refine' ne_l3 ?N ?ha ?hb ?e1 ?e2 ?e3 ?hu ?_; (case N => k_asm); (case ha => lcg_sub); (case hb => lcg_sub); (case e1 => first | assumption | exact (Grey.h (by assumption) (by assumption) (by assumption)).1 | exact (Grey2.h (by assumption) (by assumption) (by assumption)).1 | rfl); (case e2 => first | assumption | exact (Grey.h (by assumption) (by assumption) (by assumption)).2.1 | exact (Grey2.h (by assumption) (by assumption) (by assumption)).2.1 | rfl); (case e3 => first | assumption | exact (Grey.h (by assumption) (by assumption) (by assumption)).2.2 | exact (Grey2.h (by assumption) (by assumption) (by assumption)).2.2 | rfl); (case hu => units_room)) | (with_reducible refine' ne_l0 ?N ?ha ?hb ?hu ?_; (case N => k_asm); (case ha => lcg_sub); (case hb => lcg_sub); (case hu => units_room))))
  k_with "compareOp Eq ref ref" => (k_here; k_dflt ((with_reducible refine' eq_l0 ?N ?ha ?hb ?hu ?_; (case N => k_asm); (case ha => lcg_sub); (case hb => lcg_sub); (case hu => units_room))))
  k_with "eval Call" => ((with_reducible show wpAny _ _ (eval (Expr.Call (Expr.Name _ _) _ [] _) (envOf _ _ _ _ _)) _ _ _); k_dflt (refine Call_ ?_))
  k_with "binaryOp Pow int int" => (k_here; (with_reducible show wpAny _ _ (binaryOp _ (Value.int 2 _) _) _ _ _); k_dflt (first | (refine' nt_pow ?hp ?_; (case hp => first | assumption | omega)) | (refine' nt_pow1 ?hp ?_; (case hp => first | assumption | omega))))
  k_with "call builtin:list.append" => (k_here; (with_reducible show wpAny _ _ (call (Value.builtin _) [Value.ref _, _]) _ _ _); k_dflt (refine' nt_append ?F ?N ?P ?off ?hsz ?_; (case F => k_asm); (case N => k_asm); (case P => repeat' (first | exact Pick.head | refine' Pick.tail ?_)); (case off => k_all); (case hsz => first | exact Nat.le_of_ble_eq_true rfl | size_fits)); intro h' F' N'; (try simp only [List.cons_append, List.nil_append] at N'); (try k_sweep))
  k_with "exec For Name Call cons nil" => (k_here; (with_reducible rename Fr _ _ _ _ => lF'); (with_unfolding_all refine' For_turns lF' ?_; k_whole))
  k_with "pyIter ref" => (k_here; (with_reducible show wpAny _ _ (pyIter (Value.ref _)) (fun it s₂ => TurnsAt _ _ _ _ _ _ _ _ _ it s₂) _ _); k_dflt (refine' rangeTurns ?hh ?hr ?hs ?hn ?F ?N ?_; (case hh => rfl); (case hr => assumption); (case hs => first | decide | rfl); (case hn => first | rfl | decide); (case F => k_asm); (case N => k_asm)); intro i' l1'; (try k_lt l1'))
  k_with "UnrEndW" => (refine' unrEnd ?F ?N ?P ?off ⟨trivial, ?_⟩; (case F => assumption); (case N => assumption); (case P => repeat' (first | exact Pick.head | refine' Pick.tail ?_)); (case off => k_all))
  k_with "eval ListComp" => (k_here; (with_reducible show wpAny _ _ (eval (PySem.Expr.ListComp _ [⟨PySem.Expr.Name _ _, _, [], _⟩] _ _) _) _ _ _); (try k_fold); k_dflt (refine ListComp_X (F₀ := by k_asm) (by with_unfolding_all rfl) (by intro _; rfl) (by intro _; rfl) (by rfl) (by decide) (by rfl) ?_))
  k_with "SrcX" => (k_here; k_dflt (refine SrcX.intro (by rfl) (by k_asm) (by k_asm) (by assumption) (by first | decide | rfl) (by first | rfl | decide) (by first | exact Nat.le_of_ble_eq_true rfl | size_fits) ?_; intro g'))
  k_with "RestX" => (with_unfolding_all first | (refine RestX.succ ?_; intro t' I' oI' C' oC' X' oX' D' h' tk' E' hX' F' N' off' ne'; (obtain ⟨ne1', ne2', ne3', ne4', ne5', ne6'⟩ := ne')) | refine RestX.zero ?_)
  k_with "EndX" => (refine' EndX.intro ?F ?N ?P1 ?P2 ?P3 ?P4 ?off ?_; (case F => assumption); (case N => assumption); (case P1 => repeat' (first | exact Pick.head | refine' Pick.tail ?_)); (case P2 => repeat' (first | exact Pick.head | refine' Pick.tail ?_)); (case P3 => repeat' (first | exact Pick.head | refine' Pick.tail ?_)); (case P4 => repeat' (first | exact Pick.head | refine' Pick.tail ?_)); (case off => repeat' (first | exact True.intro | with_reducible assumption | (refine And.intro (by first | with_reducible assumption | exact ⟨by k_ne, by k_ne, by k_ne, by k_ne⟩) ?_))))
  k_with "call ref" => (k_here; (with_reducible show wpAny _ _ (call (Value.ref 287) _) _ _ _); k_dflt (refine' Con.use (c_colour0 _ _ _ _ _ _ _ _ ?ne _ _ ?h0 ?hj ?ht) ?B ?F ?X ?N ?T ?hk ?hd ?hu ?_; (case F => k_asm); (case N => (refine' nt_pick ?N1 ?P1; (case N1 => k_asm); (case P1 => repeat' (first | exact Pick.head | refine' Pick.tail ?_)))); (case ne => k_all); (case h0 => assumption); (case hj => assumption); (case ht => exact mid_top ⟨by omega, by omega⟩); (case T => k_asm); (case X => k_asm); (case B => k_asm); (case hk => first | exact rfl | assumption); (case hd => ktr_room); (case hu => ktr_units); k_whole); intro D' r' g' b' t1' t2' t3' c' i' j' ti' tj' h' tk' hi' hj' hr' hg' hb' F' N' o1'; (try k_sweep))
  k_with "call ref" => (k_here; (with_reducible show wpAny _ _ (call (Value.ref 299) _) _ _ _); k_dflt (refine' Con.use (c_right _ _ _ _ _ _ _ _ _ _ _ _ ?hm ?hp ?hr ?hg ?hb) ?B ?F ?X ?N ?T ?hk ?hd ?hu ?_; (case F => k_asm); (case N => k_asm); (case hm => lcg_sub); (case hp => exact ⟨by omega, by omega⟩); (case hr => with_reducible assumption); (case hg => with_reducible assumption); (case hb => with_reducible assumption); (case T => k_asm); (case X => k_asm); (case B => k_asm); (case hk => first | exact rfl | assumption); (case hd => ktr_room); (case hu => ktr_units); k_whole); intro h' tk' F' N'; (try k_sweep))
  k_with "call ref" => (k_here; (with_reducible show wpAny _ _ (call (Value.ref 304) _) _ _ _); k_dflt (refine' Con.use (c_four _ _ _ _ _ _ _ _ _ _ _ _ _ _ ?hm ?hp ?hr ?hg ?hb) ?B ?F ?X ?N ?T ?hk ?hd ?hu ?_; (case F => k_asm); (case N => k_asm); (case hm => lcg_sub); (case hp => exact ⟨by omega, by omega⟩); (case hr => with_reducible assumption); (case hg => with_reducible assumption); (case hb => with_reducible assumption); (case T => k_asm); (case X => k_asm); (case B => k_asm); (case hk => first | exact rfl | assumption); (case hd => ktr_room); (case hu => ktr_units); k_whole); intro h' tk' F' N'; (try k_sweep))
  k_with "call ref" => (k_here; (with_reducible show wpAny _ _ (call (Value.ref 323) _) _ _ _); (with_reducible refine stop_here ?_))
  k_with "call ref" => (k_here; (with_reducible show wpAny _ _ (call (Value.ref 268) _) _ _ _); (fail_if_success (with_reducible show wpAny _ _ _ (PoolEnd _ _ _ _ _) _ _)); (with_reducible refine stop_here ?_))
  k_go0
  all_goals (try k_fold)
  k_steps
  unfold Stop
  refine pool_cut (by k_asm) (by k_asm) ?walk ?go
  case walk =>
    k_steps
    all_goals (rename Fr _ _ _ _ => hF; rename News _ _ _ _ => hN)
    all_goals refine PoolEnd.intro2 hF hN (by lcg_sub) (by repeat (with_reducible first | exact Sub.refl | refine Sub.cons ?_)) ?_ ?_ ?_
    all_goals first | exact pool_hi _ _ | exact ⟨Int.fmod_nonneg_of_pos _ (by decide), Int.fmod_lt_of_pos _ (by decide)⟩ | exact off1_of (by k_all)
  case go =>
    intro D i j ti tj c h' tk' hi hj F N o
    k_steps
    unfold Stop
    refine' ConR.use (c_pr _ _ _ _ _ _ _ _ _ _ _ _ _ _ _ _ _ _ _ _ _ _ _ _ _ _ _ _ _ _ _ _ _ _ _ _ _ _ _ _ _ _ _ _ ?hne ?h0 ?hj ?hp ?mc ?m0 ?m1 ?m2 ?m3 ?ok0 ?ok1 ?ok2 ?ok3) ?B ?F ?X ?N ?T ?hk ?hd ?hu ?XB ?TB ?_
    case F => k_asm
    case N => (refine' nt_pick ?N1 ?P1; (case N1 => k_asm); (case P1 => repeat' (first | exact Pick.head | refine' Pick.tail ?_)))
    case hne => k_all
    case h0 => assumption
    case hj => assumption
    case hp => exact ⟨by omega, by omega⟩
    case mc => lcg_sub
    case m0 => lcg_sub
    case m1 => lcg_sub
    case m2 => lcg_sub
    case m3 => lcg_sub
    case ok0 => exact ⟨by unfold In0; with_reducible assumption, by unfold In0; with_reducible assumption, by unfold In0; with_reducible assumption⟩
    case ok1 => exact ⟨by unfold In0; with_reducible assumption, by unfold In0; with_reducible assumption, by unfold In0; with_reducible assumption⟩
    case ok2 => exact ⟨by unfold In0; with_reducible assumption, by unfold In0; with_reducible assumption, by unfold In0; with_reducible assumption⟩
    case ok3 => exact ⟨by unfold In0; with_reducible assumption, by unfold In0; with_reducible assumption, by unfold In0; with_reducible assumption⟩
    case T => k_asm
    case X => k_asm
    case B => k_asm
    case hk => rfl
    case hd => ktr_room
    case hu => ktr_units
    case XB => k_asm
    case TB => k_asm
    intro h' tk' hz
    k_steps
    all_goals refine goodB hz (by assumption) (raisesW_false ?_) ?_
    · wrow_none_raised
    · wrow_post
end
end Mine
set_option maxRecDepth 100000 in
set_option maxHeartbeats 8000000 in
theorem PySem.Challenge.cw_nt0553_01_holds : PySem.Challenge.rw_nt0553_01.Holds := by
  exact Mine.law_holds
