import PyProof.Rows.All
import Wide.All
import OpenK.AllK
import Wide.FinOn
import PySem.Challenge.RW_pc0135_01
open PySem PySem.W PyProof.Rows
set_option Elab.async false
set_option bootstrap.genMatcherCode false
set_option genInjectivity false
set_option genSizeOfSpec false

section
set_option maxRecDepth 100000
set_option maxHeartbeats 8000000
name_quick tw17714109039324837796 for PySem.W.S.findZ by PySem.W.S.findZ_eq
name_quick tw8075568018651887793 for PySem.W.S.findZ by PySem.W.S.findZ_eq
name_quick tw8145943149838271958 for PySem.W.S.findZ by PySem.W.S.findZ_eq
name_quick tw14979626087600564940 for PySem.W.S.findZ by PySem.W.S.findZ_eq
name_quick tw654387222894778470 for PySem.W.S.findZ by PySem.W.S.findZ_eq
name_quick tw14269140099379995077 for PySem.W.S.findZ by PySem.W.S.findZ_eq
name_quick tw8523144040758184211 for PySem.W.S.findZ by PySem.W.S.findZ_eq
name_quick tw7454036039582199476 for PySem.W.S.findZ by PySem.W.S.findZ_eq
name_quick tw16999406412319421078 for PySem.W.S.findZ by PySem.W.S.findZ_eq
name_quick tw16661375180360627877 for PySem.W.S.findZ by PySem.W.S.findZ_eq
name_quick tw7840439059173320295 for PySem.W.S.findZ by PySem.W.S.findZ_eq
name_quick tw9518460778924858168 for PySem.W.S.findZ by PySem.W.S.findZ_eq
name_quick tw15059494819884010274 for PySem.W.S.findZ by PySem.W.S.findZ_eq
name_quick tw6360927072579720938 for PySem.W.S.findZ by PySem.W.S.findZ_eq
name_quick tw369529430317351170 for PySem.W.S.findZ by PySem.W.S.findZ_eq
name_quick tw7483462131439158144 for PySem.W.S.findZ by PySem.W.S.findZ_eq
name_quick tw14904524295806243326 for PySem.W.S.findZ by PySem.W.S.findZ_eq
name_quick tw10352308551163946355 for PySem.W.S.findZ by PySem.W.S.findZ_eq
name_quick tw12095823642532355627 for PySem.W.S.findZ by PySem.W.S.findZ_eq
name_quick tw4039474712603431140 for PySem.W.S.findZ by PySem.W.S.findZ_eq
name_quick tw8098380416015320538 for PySem.W.S.findZ by PySem.W.S.findZ_eq
name_quick tw9132628772440929594 for PySem.W.S.findZ by PySem.W.S.findZ_eq
name_quick tw8719427161674164953 for PySem.W.S.findZ by PySem.W.S.findZ_eq
name_quick tw11445135464325071761 for PySem.W.S.findZ by PySem.W.S.findZ_eq
name_quick tw1620339239838986703 for PySem.W.S.findZ by PySem.W.S.findZ_eq
name_quick tw8265968502654686089 for PySem.W.S.findZ by PySem.W.S.findZ_eq
name_quick tw17344680358763864322 for PySem.W.S.findZ by PySem.W.S.findZ_eq
name_quick tw2001226814458364393 for PySem.W.S.findZ by PySem.W.S.findZ_eq
name_quick tw4275521005467322725 for PySem.W.S.findZ by PySem.W.S.findZ_eq
name_quick tw15902184279288820625 for PySem.W.S.findZ by PySem.W.S.findZ_eq
name_quick tw12022618010286034681 for PySem.W.S.findZ by PySem.W.S.findZ_eq
name_quick tw14971970265804392439 for PySem.W.S.findZ by PySem.W.S.findZ_eq
name_quick tw10045867985992453528 for PySem.W.S.findZ by PySem.W.S.findZ_eq
name_quick tw930746551332336609 for PySem.W.S.findZ by PySem.W.S.findZ_eq
name_quick tw7232422423428716515 for PySem.W.S.findZ by PySem.W.S.findZ_eq
name_quick tw6648295256997805279 for PySem.W.S.findZ by PySem.W.S.findZ_eq
name_quick tw9537544019596298400 for PySem.W.S.findZ by PySem.W.S.findZ_eq
name_quick tw15880737140895825463 for PySem.W.S.findZ by PySem.W.S.findZ_eq
name_quick tw12726346659333912481 for PySem.W.S.findZ by PySem.W.S.findZ_eq
name_quick tw9821368406582625841 for PySem.W.S.findZ by PySem.W.S.findZ_eq
name_quick tw2283851925072248500 for PySem.W.S.findZ by PySem.W.S.findZ_eq
name_quick tw6711915476519705758 for PySem.W.S.findZ by PySem.W.S.findZ_eq
name_quick tw10146832411891806045 for PySem.W.S.findZ by PySem.W.S.findZ_eq
name_quick tw16531745337717519161 for PySem.W.S.findZ by PySem.W.S.findZ_eq
name_quick tw11994158751524154303 for PySem.W.S.findZ by PySem.W.S.findZ_eq
name_quick tw14073706353221006472 for PySem.W.S.findZ by PySem.W.S.findZ_eq
name_quick tw17024950926791866790 for PySem.W.S.findZ by PySem.W.S.findZ_eq
name_quick tw13254397897704925713 for PySem.W.S.findZ by PySem.W.S.findZ_eq
name_quick tw9673203406766833760 for PySem.W.S.findZ by PySem.W.S.findZ_eq
name_quick tw11964429278604863157 for PySem.W.S.findZ by PySem.W.S.findZ_eq
name_quick tw14209830616999942402 for PySem.W.S.findZ by PySem.W.S.findZ_eq
name_quick tw117213463901210413 for PySem.W.S.findZ by PySem.W.S.findZ_eq
name_quick tw7098571738820278039 for PySem.W.S.findZ by PySem.W.S.findZ_eq
name_quick tw721709456127091705 for PySem.W.S.findZ by PySem.W.S.findZ_eq
name_quick tw14884601019740666482 for PySem.W.S.findZ by PySem.W.S.findZ_eq
name_quick tw6789855027759293466 for PySem.W.S.findZ by PySem.W.S.findZ_eq
name_quick tw5465617051466427057 for PySem.W.S.findZ by PySem.W.S.findZ_eq
name_quick tw13981391230805400906 for PySem.W.S.findZ by PySem.W.S.findZ_eq
name_quick tw7504490480230193789 for PySem.W.S.findZ by PySem.W.S.findZ_eq
name_quick tw3820604794100220378 for PySem.W.S.findZ by PySem.W.S.findZ_eq
name_quick tw4090926877573551719 for PySem.W.S.findZ by PySem.W.S.findZ_eq
name_quick tw14352324783045137146 for PySem.W.S.findZ by PySem.W.S.findZ_eq
name_quick tw12898947447245864913 for PySem.W.S.findZ by PySem.W.S.findZ_eq
name_quick tw7783732958741208154 for PySem.W.S.findZ by PySem.W.S.findZ_eq
name_quick tw17730428716208468724 for PySem.W.S.findZ by PySem.W.S.findZ_eq
name_quick tw4549333791460862111 for PySem.W.S.findZ by PySem.W.S.findZ_eq
name_quick tw15450981722951097364 for PySem.W.S.findZ by PySem.W.S.findZ_eq
name_quick tw13642483538084851733 for PySem.W.S.findZ by PySem.W.S.findZ_eq
name_quick tw3976722010076183465 for PySem.W.S.findZ by PySem.W.S.findZ_eq
name_quick tw13236226663087606529 for PySem.W.S.findZ by PySem.W.S.findZ_eq
name_quick tw6714822604882049554 for PySem.W.S.findZ by PySem.W.S.findZ_eq
name_quick tw3264259588550801142 for PySem.W.S.findZ by PySem.W.S.findZ_eq
name_quick tw2711585505577850959 for PySem.W.S.findZ by PySem.W.S.findZ_eq
name_quick tw11957962974430299695 for PySem.W.S.findZ by PySem.W.S.findZ_eq
name_quick tw17964007177503468958 for PySem.W.S.findZ by PySem.W.S.findZ_eq
name_quick tw17774800907425398282 for PySem.W.S.findZ by PySem.W.S.findZ_eq
name_quick tw12224578244612797663 for PySem.W.S.findZ by PySem.W.S.findZ_eq
name_quick tw11108263761283441063 for PySem.W.S.findZ by PySem.W.S.findZ_eq
name_quick tw441327347791068078 for PySem.W.S.findZ by PySem.W.S.findZ_eq
name_quick tw8032284361305108907 for PySem.W.S.findZ by PySem.W.S.findZ_eq
name_quick tw9407582987413476825 for PySem.W.S.findZ by PySem.W.S.findZ_eq
name_quick tw1156252341971683116 for PySem.W.S.findZ by PySem.W.S.findZ_eq
name_quick tw13915792640404377917 for PySem.W.S.findZ by PySem.W.S.findZ_eq
name_quick tw17069979004554194336 for PySem.W.S.findZ by PySem.W.S.findZ_eq
name_quick tw15562837088269578035 for PySem.W.S.findZ by PySem.W.S.findZ_eq
name_quick tw878741703135273975 for PySem.W.S.findZ by PySem.W.S.findZ_eq
name_quick tw6125931036764729998 for PySem.W.S.findZ by PySem.W.S.findZ_eq
name_quick tw11277716924127702174 for PySem.W.S.findZ by PySem.W.S.findZ_eq
name_quick tw3177591051634278968 for PySem.W.S.findZ by PySem.W.S.findZ_eq
name_quick tw43969757491396457 for PySem.W.S.findZ by PySem.W.S.findZ_eq
name_quick tw16979880578912567463 for PySem.W.S.findZ by PySem.W.S.findZ_eq
name_quick tw10487160056961263569 for PySem.W.S.findZ by PySem.W.S.findZ_eq
name_quick tw16874561944515371726 for PySem.W.S.findZ by PySem.W.S.findZ_eq
name_quick tw10470071008263537045 for PySem.W.S.findZ by PySem.W.S.findZ_eq
name_quick tw1537898542681612871 for PySem.W.S.findZ by PySem.W.S.findZ_eq
name_quick tw17828083071136270317 for PySem.W.S.findZ by PySem.W.S.findZ_eq
name_quick tw13789449189825218787 for PySem.W.S.findZ by PySem.W.S.findZ_eq
name_quick tw11853533878840232495 for PySem.W.S.findZ by PySem.W.S.findZ_eq
name_quick tw4407734736301137906 for PySem.W.S.findZ by PySem.W.S.findZ_eq
name_quick tw15919542637913265678 for PySem.W.S.findZ by PySem.W.S.findZ_eq
name_quick tw8400853705098224536 for PySem.W.S.findZ by PySem.W.S.findZ_eq
name_quick tw14126943448341045398 for PySem.W.S.findZ by PySem.W.S.findZ_eq
name_quick tw5823794197072137003 for PySem.W.S.findZ by PySem.W.S.findZ_eq
name_quick tw17300597898927385350 for PySem.W.S.findZ by PySem.W.S.findZ_eq
name_quick tw1041845030581493396 for PySem.W.S.findZ by PySem.W.S.findZ_eq
name_quick tw9151444980202551346 for PySem.W.S.findZ by PySem.W.S.findZ_eq
name_quick tw11892598404827812706 for PySem.W.S.findZ by PySem.W.S.findZ_eq
name_quick tw12392613427281201732 for PySem.W.S.findZ by PySem.W.S.findZ_eq
name_quick tw3209381107111851631 for PySem.W.S.findZ by PySem.W.S.findZ_eq
name_quick tw1708024556718086227 for PySem.W.S.findZ by PySem.W.S.findZ_eq
name_quick tw4933834842325187142 for PySem.W.S.findZ by PySem.W.S.findZ_eq
name_quick tw17270683271865797415 for PySem.W.S.findZ by PySem.W.S.findZ_eq
name_quick tw11740888236361828772 for PySem.W.S.findZ by PySem.W.S.findZ_eq
name_quick tw17111948838632640456 for PySem.W.S.findZ by PySem.W.S.findZ_eq
name_quick tw6654550962395885724 for PySem.W.S.findZ by PySem.W.S.findZ_eq
name_quick tw912392155897948271 for PySem.W.S.findZ by PySem.W.S.findZ_eq
name_quick tw667198328695590252 for PySem.W.S.findZ by PySem.W.S.findZ_eq
name_quick tw10227693086864044499 for PySem.W.S.findZ by PySem.W.S.findZ_eq
name_quick tw2193789692954389824 for PySem.W.S.findZ by PySem.W.S.findZ_eq
name_quick tw8224813933742928703 for PySem.W.S.findZ by PySem.W.S.findZ_eq
name_quick tw9979284746773624096 for PySem.W.S.findZ by PySem.W.S.findZ_eq
name_quick tw608726401823008365 for PySem.W.S.findZ by PySem.W.S.findZ_eq
name_quick tw2664551874359636763 for PySem.W.S.findZ by PySem.W.S.findZ_eq
name_quick tw8708707556590381134 for PySem.W.S.findZ by PySem.W.S.findZ_eq
name_quick tw16792545251062261874 for PySem.W.S.findZ by PySem.W.S.findZ_eq
name_quick tw10939839348159177617 for PySem.W.S.findZ by PySem.W.S.findZ_eq
name_quick tw16869277618539721502 for PySem.W.S.findZ by PySem.W.S.findZ_eq
name_quick tw10948738476641704880 for PySem.W.S.findZ by PySem.W.S.findZ_eq
name_quick tw9800571698397750058 for PySem.W.S.findZ by PySem.W.S.findZ_eq
name_quick tw2599325451414397859 for PySem.W.S.findZ by PySem.W.S.findZ_eq
name_quick tw8119918657739134586 for PySem.W.S.findZ by PySem.W.S.findZ_eq
name_quick tw13145125596335152023 for PySem.W.S.findZ by PySem.W.S.findZ_eq
name_quick tw5978237884098788730 for PySem.W.S.findZ by PySem.W.S.findZ_eq
name_quick tw14537914154153760125 for PySem.W.S.findZ by PySem.W.S.findZ_eq
name_quick tw18350638575300117064 for PySem.W.S.findZ by PySem.W.S.findZ_eq
name_quick tw1772237422875290029 for PySem.W.S.findZ by PySem.W.S.findZ_eq
name_quick tw16413264400604254196 for PySem.W.S.findZ by PySem.W.S.findZ_eq
name_quick tw12177639751122801600 for PySem.W.S.findZ by PySem.W.S.findZ_eq
name_quick tw2378363196638174374 for PySem.W.S.findZ by PySem.W.S.findZ_eq
name_quick tw13759679279233594173 for PySem.W.S.findZ by PySem.W.S.findZ_eq
name_quick tw17101871299007795629 for PySem.W.S.findZ by PySem.W.S.findZ_eq
name_quick tw1749818173716722547 for PySem.W.S.findZ by PySem.W.S.findZ_eq
name_quick tw18350330562280901221 for PySem.W.S.findZ by PySem.W.S.findZ_eq
name_quick tw17552769576498331613 for PySem.W.S.findZ by PySem.W.S.findZ_eq
name_quick tw662354867322794072 for PySem.W.S.findZ by PySem.W.S.findZ_eq
name_quick tw11788150170368784547 for PySem.W.S.findZ by PySem.W.S.findZ_eq
name_quick tw16752143609539240740 for PySem.W.S.findZ by PySem.W.S.findZ_eq
name_quick tw9467589175468403638 for PySem.W.S.findZ by PySem.W.S.findZ_eq
name_quick tw10010936943081839664 for PySem.W.S.findZ by PySem.W.S.findZ_eq
name_quick tw9501820088010722379 for PySem.W.S.findZ by PySem.W.S.findZ_eq
name_quick tw9219426015542480343 for PySem.W.S.findZ by PySem.W.S.findZ_eq
name_quick tw9676229304581654039 for PySem.W.S.findZ by PySem.W.S.findZ_eq
name_quick tw17001327861769816259 for PySem.W.S.findZ by PySem.W.S.findZ_eq
name_quick tw13526986893379352335 for PySem.W.S.findZ by PySem.W.S.findZ_eq
name_quick tw16655555454665732581 for PySem.W.S.findZ by PySem.W.S.findZ_eq
name_quick tw12825359941727978080 for PySem.W.S.findZ by PySem.W.S.findZ_eq
name_quick tw10063671712614023339 for PySem.W.S.findZ by PySem.W.S.findZ_eq
name_quick tw12635297910168745909 for PySem.W.S.findZ by PySem.W.S.findZ_eq
name_quick tw8727135674562949291 for PySem.W.S.findZ by PySem.W.S.findZ_eq
name_quick tw14168537005229113720 for PySem.W.S.findZ by PySem.W.S.findZ_eq
name_quick tw189603312586018693 for PySem.W.S.findZ by PySem.W.S.findZ_eq
name_quick tw16947794391021106201 for PySem.W.S.findZ by PySem.W.S.findZ_eq
name_quick tw5396446701170858492 for PySem.W.S.findZ by PySem.W.S.findZ_eq
name_quick tw1333364371103165705 for PySem.W.S.findZ by PySem.W.S.findZ_eq
name_quick tw2334299552400917057 for PySem.W.S.findZ by PySem.W.S.findZ_eq
name_quick tw10996506086634736982 for PySem.W.S.findZ by PySem.W.S.findZ_eq
name_quick tw3424931102881643321 for PySem.W.S.findZ by PySem.W.S.findZ_eq
name_quick tw2968979199505139716 for PySem.W.S.findZ by PySem.W.S.findZ_eq
name_quick tw3764465048917985505 for PySem.W.S.findZ by PySem.W.S.findZ_eq
name_quick tw7299303143086499733 for PySem.W.S.findZ by PySem.W.S.findZ_eq
name_quick tw18416463498863911781 for PySem.W.S.findZ by PySem.W.S.findZ_eq
name_quick tw8488268690174267210 for PySem.W.S.findZ by PySem.W.S.findZ_eq
name_quick tw16414604833108395602 for PySem.W.S.findZ by PySem.W.S.findZ_eq
name_quick tw16439824349840649037 for PySem.W.S.findZ by PySem.W.S.findZ_eq
name_quick tw13016732220969518872 for PySem.W.S.findZ by PySem.W.S.findZ_eq
name_quick tw9948023125614773506 for PySem.W.S.findZ by PySem.W.S.findZ_eq
name_quick tw15278061642289888581 for PySem.W.S.findZ by PySem.W.S.findZ_eq
name_quick tw6817277305950994716 for PySem.W.S.findZ by PySem.W.S.findZ_eq
name_quick tw9759809726879904816 for PySem.W.S.findZ by PySem.W.S.findZ_eq
name_quick tw10007627690174824804 for PySem.W.S.findZ by PySem.W.S.findZ_eq
name_quick tw4011157648589011858 for PySem.W.S.findZ by PySem.W.S.findZ_eq
name_quick tw3766158894648301139 for PySem.W.S.findZ by PySem.W.S.findZ_eq
name_quick tw16494616584097029746 for PySem.W.S.findZ by PySem.W.S.findZ_eq
name_quick tw4319705520415482375 for PySem.W.S.findZ by PySem.W.S.findZ_eq
name_quick tw6434138532213402376 for PySem.W.S.findZ by PySem.W.S.findZ_eq
name_quick tw9862997608875712007 for PySem.W.S.findZ by PySem.W.S.findZ_eq
name_quick tw14326252917377295143 for PySem.W.S.findZ by PySem.W.S.findZ_eq
name_quick tw10938465397075749097 for PySem.W.S.findZ by PySem.W.S.findZ_eq
name_quick tw9787396351842916947 for PySem.W.S.findZ by PySem.W.S.findZ_eq
name_quick tw17827458813498177553 for PySem.W.S.findZ by PySem.W.S.findZ_eq
name_quick tw2611137233208623240 for PySem.W.S.findZ by PySem.W.S.findZ_eq
name_quick tw7892128664451923741 for PySem.W.S.findZ by PySem.W.S.findZ_eq
name_quick tw17279654841073493023 for PySem.W.S.findZ by PySem.W.S.findZ_eq
name_quick tw1962928258387122110 for PySem.W.S.findZ by PySem.W.S.findZ_eq
name_quick tw8693227569615203950 for PySem.W.S.findZ by PySem.W.S.findZ_eq
name_quick tw10887116778572429059 for PySem.W.S.findZ by PySem.W.S.findZ_eq
name_quick tw11306939235166856333 for PySem.W.S.findZ by PySem.W.S.findZ_eq
name_quick tw11270796479367742343 for PySem.W.S.findZ by PySem.W.S.findZ_eq
name_quick tw5032809538720368765 for PySem.W.S.findZ by PySem.W.S.findZ_eq
name_quick tw15980859228951719591 for PySem.W.S.findZ by PySem.W.S.findZ_eq
name_quick tw16049961110935095269 for PySem.W.S.findZ by PySem.W.S.findZ_eq
name_quick tw8537084889766193716 for PySem.W.S.findZ by PySem.W.S.findZ_eq
namespace Mine
open_top hd for PySem.Challenge.rw_pc0135_01
end Mine
end

section
namespace Mine
open PySem
/-- constants of the text -/
inductive PC where
  | none | bool (b : Bool) | int (i : Int) | str (s : List Nat) | byt (b : List Nat)
mutual
/-- expressions, with their places -/
inductive PE where
  | loc (x : Nat) (p : Pos) | glb (x : Nat) (p : Pos) | cel (x : Nat) (p : Pos) | cst (c : PC) (p : Pos)
  | tup (es : PEs) (p : Pos) | lst (es : PEs) (p : Pos)
  | bin (op : Operator) (a b : PE) (p : Pos) | un (op : UnaryOp) (a : PE) (p : Pos) | bop (op : BoolOp) (es : PEs) (p : Pos)
  | cmp (a : PE) (op : CmpOp) (b : PE) (p : Pos) | cmp2 (a : PE) (o1 : CmpOp) (b : PE) (o2 : CmpOp) (c : PE) (p : Pos)
  | ife (t a b : PE) (p : Pos) | call (f : PE) (as : PEs) (p : Pos) | mcall (o : PE) (n : Nat) (np : Pos) (as : PEs) (p : Pos)
  | att (o : PE) (n : Nat) (p : Pos) | sub (o i : PE) (p : Pos)
  | sl1 (o l : PE) (sp p : Pos) | sl2 (o l u : PE) (sp p : Pos)
  | comp (elt : PE) (ts : List (Nat × Pos)) (tp : Option Pos) (it : PE) (ifs : PEs) (sc : List (Nat × Nat)) (p : Pos)
inductive PEs where
  | nil | cons (e : PE) (r : PEs)
end
mutual
inductive PS where
  | asg (x : Nat) (xp : Pos) (e : PE) (p : Pos) | asgT (xs : List (Nat × Pos)) (tp : Pos) (e : PE) (p : Pos)
  | asgA (o : PE) (n : Nat) (np : Pos) (e : PE) (p : Pos) | asgS (o i : PE) (sp : Pos) (e : PE) (p : Pos)
  | ret (e : PE) (p : Pos) | retN (p : Pos) | ifs (t : PE) (a b : PSs) (p : Pos) | whl (t : PE) (b : PSs) (p : Pos)
  | for_ (x : Nat) (xp : Pos) (it : PE) (b : PSs) (p : Pos) | exp (e : PE) (p : Pos) | rais (e : PE) (p : Pos)
  | tri (b : PSs) (ty : PE) (h : PSs) (hp p : Pos)
inductive PSs where
  | nil | cons (s : PS) (r : PSs)
end
/-- values: what is known of them -/
inductive AV where
  | none | bool (b : Bool) | int (k : Int) | str (s : List Nat) | byt (n : Nat) | ref (i : Nat)
  | fn (k : Nat) | cls (k : Nat) | bi (k : Nat) | sym (k : Nat) | sstr
/-- objects that the call has made -/
inductive AO where
  | tup (vs : List AV) | lst (vs : List AV) | inst (c d : Nat) | dct (es : List (Nat × AV)) | lit (l j : Nat)
noncomputable abbrev Led := List (Nat × AO)
structure Sig where
  led : Led
  nxt : Nat
noncomputable abbrev Loc := List (Nat × AV)
structure FnRec where
  params : List Nat
  dflts : List AV
  body : PSs
  locs : List Nat
  glbs : List Nat
structure ClsRec where
  init : Nat
  attrs : List Nat
  meths : List (Nat × Nat)
structure Tb where
  fnT : List (Nat × FnRec)
  clsT : List (Nat × ClsRec)
  gT : List (Nat × AV)
  nSplit : Nat
  nJoin : Nat
  nFind : Nat
  nAppend : Nat
  fFig : Nat
  /-- is the count of figures answered without its walk? -/
  fig : Bool := true
  D : Int
  neg : Bool
  tSplit : List (List Nat × List (List Nat))
  tInt : List (List Nat × Nat)
  tFind : List (List Nat × (Nat × Int))
structure FI where
  locs : List Nat
  glbs : List Nat
  cc : Nat
  cel : List (Nat × AV)
inductive Out (α : Type) where
  | stuck | ok (a : α) (σ : Sig) | exc (σ : Sig)
inductive OutS where
  | stuck | next (l : Loc) (σ : Sig) | ret (v : AV) (σ : Sig) | exc (σ : Sig) | rai (σ : Sig)
noncomputable def Out.bind {α β : Type} (x : Out α) (f : α → Sig → Out β) : Out β := match x with
  | .stuck => .stuck | .ok a σ => f a σ | .exc σ => .exc σ
noncomputable def Out.noexc {α : Type} (x : Out α) : Out α := match x with | .ok a σ => .ok a σ | _ => .stuck
noncomputable def Out.bindS {α : Type} (x : Out α) (f : α → Sig → OutS) : OutS := match x with
  | .stuck => .stuck | .ok a σ => f a σ | .exc σ => .exc σ
noncomputable def ofOpt {α : Type} (x : Option α) (σ : Sig) : Out α := match x with | some a => .ok a σ | none => .stuck
noncomputable def aget {α : Type} : List (Nat × α) → Nat → Option α
  | [], _ => none
  | p :: r, i => bif Nat.beq p.1 i then some p.2 else aget r i
noncomputable def aput {α : Type} : List (Nat × α) → Nat → α → List (Nat × α)
  | [], i, v => [(i, v)]
  | p :: r, i, v => bif Nat.beq p.1 i then (i, v) :: r else p :: aput r i v
noncomputable def aset {α : Type} : List (Nat × α) → Nat → α → List (Nat × α)
  | [], _, _ => []
  | p :: r, i, v => bif Nat.beq p.1 i then (i, v) :: r else p :: aset r i v
noncomputable def nelem : List Nat → Nat → Bool
  | [], _ => false
  | x :: r, i => bif Nat.beq x i then true else nelem r i
noncomputable def nth {α : Type} : List α → Nat → Option α
  | [], _ => none
  | x :: r, n => match n with | 0 => some x | n + 1 => nth r n
noncomputable def seq : List Nat → List Nat → Bool
  | [], [] => true
  | x :: r, y :: t => bif Nat.beq x y then seq r t else false
  | _, _ => false
noncomputable def sget {α : Type} : List (List Nat × α) → List Nat → Option α
  | [], _ => none
  | p :: r, k => bif seq p.1 k then some p.2 else sget r k
noncomputable def fget : List (List Nat × (Nat × Int)) → List Nat → Nat → Option Int
  | [], _, _ => none
  | p :: r, k, n => bif Nat.beq p.2.1 n && seq p.1 k then some p.2.2 else fget r k n
noncomputable def small (n : Nat) : Bool := Nat.ble n 1000
noncomputable def look (σ : Sig) (i : Nat) : Option AO := aget σ.led i
noncomputable def alloc (σ : Sig) (o : AO) : Nat × Sig := (σ.nxt, ⟨(σ.nxt, o) :: σ.led, σ.nxt + 1⟩)
noncomputable def store (σ : Sig) (i : Nat) (o : AO) : Sig := ⟨aset σ.led i o, σ.nxt⟩
noncomputable def okc : List Nat → Bool
  | [] => true
  | c :: r => bif Nat.blt c 1114112 then okc r else false
/-- is a value data -/
noncomputable def isD (σ : Sig) : Nat → AV → Bool
  | 0, _ => false
  | n + 1, v => match v with
    | .none => true | .bool _ => true | .int _ => true | .str s => okc s
    | .ref i => match look σ i with
      | some (.tup xs) => xs.all (isD σ n)
      | some (.lst xs) => xs.all (isD σ n)
      | _ => false
    | _ => false
noncomputable def eqbs (f : AV → AV → Bool) : List AV → List AV → Bool
  | [], [] => true
  | x :: r, y :: t => bif f x y then eqbs f r t else false
  | _, _ => false
/-- == of data -/
noncomputable def eqb (σ : Sig) : Nat → AV → AV → Bool
  | 0, _, _ => false
  | n + 1, a, b => match a, b with
    | .none, .none => true
    | .bool x, .bool y => x == y
    | .bool x, .int j => (if x then 1 else 0) == j
    | .int i, .bool y => i == (if y then 1 else 0)
    | .int x, .int y => x == y
    | .str x, .str y => seq x y
    | .ref i, .ref j => match look σ i, look σ j with
      | some (.tup xs), some (.tup ys) => eqbs (eqb σ n) xs ys
      | some (.lst xs), some (.lst ys) => eqbs (eqb σ n) xs ys
      | _, _ => false
    | _, _ => false
noncomputable def eqv (σ : Sig) (a b : AV) : Option Bool := bif isD σ 12 a && isD σ 12 b then some (eqb σ 12 a b) else none
noncomputable def longer (σ : Sig) (a b : AV) : Bool := match a, b with
  | .ref i, .ref j => match look σ i, look σ j with
    | some (.lst xs), some (.lst ys) => !Nat.beq xs.length ys.length
    | _, _ => false
  | _, _ => false
noncomputable def items (σ : Sig) (v : AV) : Option (List AV) := match v with
  | .ref i => match look σ i with
    | some (.tup xs) => some xs
    | some (.lst xs) => some xs
    | _ => none
  | _ => none
noncomputable def inStr : AV → List Nat → Option Bool
  | .str [c], t => some (nelem t c)
  | _, _ => none
noncomputable def inv (σ : Sig) (a b : AV) : Option Bool := match b with
  | .str t => inStr a t
  | b => bif isD σ 12 a && isD σ 12 b then (items σ b).map fun xs => xs.any fun y => eqb σ 12 y a else none
noncomputable def ltv : AV → AV → Option Bool
  | .int x, .int y => some (decide (x < y))
  | _, _ => none
noncomputable def lev : AV → AV → Option Bool
  | .int x, .int y => some (decide (x ≤ y))
  | .str [x], .str [y] => some (Nat.ble x y)
  | _, _ => none
noncomputable def gtv : AV → AV → Option Bool
  | .int x, .int y => some (decide (y < x))
  | _, _ => none
noncomputable def gev : AV → AV → Option Bool
  | .int x, .int y => some (decide (y ≤ x))
  | _, _ => none
noncomputable def isN : AV → AV → Option Bool
  | .none, .none => some true
  | .ref _, .none => some false
  | _, _ => none
noncomputable def cmpv (σ : Sig) (op : CmpOp) (a b : AV) : Option Bool := match op with
  | .Eq => eqv σ a b
  | .NotEq => bif longer σ a b then some true else (eqv σ a b).map (!·)
  | .Lt => ltv a b
  | .LtE => lev a b
  | .Gt => gtv a b
  | .GtE => gev a b
  | .In => inv σ a b
  | .NotIn => (inv σ a b).map (!·)
  | .Is => isN a b
  | .IsNot => (isN a b).map (!·)
noncomputable def binv (σ : Sig) (op : Operator) (a b : AV) : Out AV := match op, a, b with
  | .Add, .int x, .int y => .ok (.int (x + y)) σ
  | .Add, .str x, .str y => bif small (x.length + y.length) then .ok (.str (x ++ y)) σ else .stuck
  | .Add, .ref i, .ref j => match look σ i, look σ j with
    | some (.lst xs), some (.lst ys) => bif small (xs.length + ys.length) then (let r := alloc σ (.lst (xs ++ ys)); .ok (.ref r.1) r.2) else .stuck
    | _, _ => .stuck
  | .Sub, .int x, .int y => .ok (.int (x - y)) σ
  | .Mult, .int x, .int y => bif decide (0 ≤ x) && decide (x ≤ 1000) then .ok (.int (x * y)) σ else .stuck
  | .Mult, .byt n, .int y => bif Nat.ble 1 n && Nat.ble n 16 && decide (0 ≤ y) && decide (y ≤ 1000) then .ok (.byt (n * y.toNat)) σ else .stuck
  | .FloorDiv, .int x, .int y => bif decide (0 < y) && decide (y ≤ 1000) then .ok (.int (Int.fdiv x y)) σ else .stuck
  | .Mod, .int x, .int y => bif decide (0 < y) then .ok (.int (Int.fmod x y)) σ else .stuck
  | .Pow, .int x, .int y => bif decide (0 ≤ y) && decide (y ≤ 30) && decide (x = 10) then .ok (.int (x ^ y.toNat)) σ else .stuck
  | _, _, _ => .stuck
noncomputable def getv {α : Type} (xs : List α) (k : Int) : Option α := bif small xs.length then (match k with
  | .ofNat n => nth xs n
  | .negSucc n => bif Nat.blt n xs.length then nth xs (xs.length - (n + 1)) else none) else none
noncomputable def subv (σ : Sig) (o i : AV) : Option AV := match i with
  | .int k => match o with
    | .str s => (match k with | .ofNat n => bif Nat.ble n 1000 then (nth s n).map fun c => .str [c] else none | _ => none)
    | _ => (items σ o).bind fun xs => getv xs k
  | _ => none
/-- a cut from l to u (0 ≤ l; u a number) -/
noncomputable def cut {α : Type} (xs : List α) (l u : Nat) : List α := (xs.drop l).take (min u xs.length - l)
noncomputable def lenV (tb : Tb) (σ : Sig) (v : AV) : Option Int := match v with
  | .str s => bif small s.length then some s.length else none
  | .byt n => bif Nat.ble n 1000000 then some n else none
  | .sstr => some tb.D
  | .ref i => match look σ i with
    | some (.tup xs) => bif small xs.length then some xs.length else none
    | some (.lst xs) => bif small xs.length then some xs.length else none
    | _ => none
  | _ => none
noncomputable def intV (tb : Tb) (v : AV) : Option Int := match v with
  | .int i => some i
  | .bool b => some (bif b then 1 else 0)
  | .str s => (sget tb.tInt s).map Int.ofNat
  | _ => none
noncomputable def sumL : List AV → Option Int
  | [] => some 0
  | .int k :: r => (sumL r).map (k + ·)
  | _ => none
noncomputable def sumV (σ : Sig) (v : AV) : Option Int := match v with
  | .ref i => match look σ i with
    | some (.lst xs) => sumL xs
    | _ => none
  | _ => none
noncomputable def tupV (σ : Sig) (v : AV) : Out AV := match v with
  | .ref i => match look σ i with
    | some (.lst xs) => bif small xs.length then .ok (.ref (alloc σ (.tup xs)).1) (alloc σ (.tup xs)).2 else .stuck
    | _ => .stuck
  | _ => .stuck
noncomputable def absI (u : Int) : Int := if u < 0 then -u else u
noncomputable def callBi1 (tb : Tb) (σ : Sig) (k : Nat) (v : AV) : Out AV := match k with
  | 0 => (ofOpt (lenV tb σ v) σ).bind fun n σ => .ok (.int n) σ
  | 1 => (ofOpt (intV tb v) σ).bind fun n σ => .ok (.int n) σ
  | 3 => (ofOpt (sumV σ v) σ).bind fun n σ => .ok (.int n) σ
  | 4 => tupV σ v
  | 5 => match v with | .sym 0 => .ok (.sym 1) σ | .int k => .ok (.int (absI k)) σ | _ => .stuck
  | 6 => match v with | .sym 1 => .ok .sstr σ | _ => .stuck
  | _ => .stuck
noncomputable def maxV (a b : AV) (σ : Sig) : Out AV := match a, b with
  | .int x, .int y => .ok (.int (bif decide (x < y) then y else x)) σ
  | _, _ => .stuck
noncomputable def callBi (tb : Tb) (σ : Sig) (k : Nat) (as : List AV) : Out AV := match as with
  | [v] => callBi1 tb σ k v
  | [a, b] => bif Nat.beq k 2 then maxV a b σ else .stuck
  | _ => .stuck
/-- reachable objects, for dropping the others -/
noncomputable def reach (led : Led) : Nat → List AV → List Nat → List Nat
  | 0, _, seen => seen
  | n + 1, todo, seen => match todo with
    | [] => seen
    | v :: r => match v with
      | .ref i => bif nelem seen i then reach led n r seen else match aget led i with
        | some (.tup xs) => reach led n (xs ++ r) (i :: seen)
        | some (.lst xs) => reach led n (xs ++ r) (i :: seen)
        | some (.inst _ d) => reach led n (.ref d :: r) (i :: seen)
        | some (.dct es) => reach led n (es.map (·.2) ++ r) (i :: seen)
        | _ => reach led n r (i :: seen)
      | _ => reach led n r seen
noncomputable def keepIf (p : Nat → Bool) : Led → Led
  | [] => []
  | q :: r => bif p q.1 then q :: keepIf p r else keepIf p r
noncomputable def keepNew (old : Nat) (p : Nat → Bool) : Led → Led
  | [] => []
  | q :: r => bif Nat.blt q.1 old then q :: r else bif p q.1 then q :: keepNew old p r else keepNew old p r
/-- drop what was made since 'old' and is not reachable from v -/
noncomputable def drop (old : Nat) (v : AV) (σ : Sig) : Sig := match v with
  | .ref i => bif Nat.blt i old then ⟨keepNew old (fun _ => false) σ.led, σ.nxt⟩ else (let seen := reach σ.led 400 [v] []; ⟨keepNew old (fun i => nelem seen i) σ.led, σ.nxt⟩)
  | _ => ⟨keepNew old (fun _ => false) σ.led, σ.nxt⟩
noncomputable def dropId (σ : Sig) (k : Nat) : Sig := ⟨keepIf (fun q => !Nat.beq q k) σ.led, σ.nxt⟩
structure Itp where
  ev : FI → Loc → PE → Sig → Out AV
  evs : FI → Loc → PEs → Sig → Out (List AV)
  tr : FI → Loc → PE → Sig → Out Bool
  trs : BoolOp → FI → Loc → PEs → Sig → Out Bool
  ex : FI → Loc → PS → Sig → OutS
  exs : FI → Loc → PSs → Sig → OutS
  whl : FI → Loc → PE → PSs → Sig → OutS
  fr : FI → Loc → Nat → Nat → PSs → Sig → OutS
  cl : Nat → Nat → List AV → Sig → Out AV
  cmp : FI → Loc → PE → List (Nat × Pos) → Option Pos → PEs → AV → Nat → Sig → Out (List AV)
noncomputable def truth (v : AV) (σ : Sig) : Out Bool := match v with | .bool b => .ok b σ | _ => .stuck
noncomputable def constV : PC → AV
  | .none => .none | .bool b => .bool b | .int i => .int i | .str s => .str s | .byt b => .byt b.length
noncomputable def zipP : List Nat → List AV → List AV → Option Loc
  | [], [], _ => some []
  | [], _ :: _, _ => none
  | x :: r, v :: t, d => (zipP r t d).map ((x, v) :: ·)
  | x :: r, [], d => bif Nat.ble (r.length + 1) d.length then some ((x :: r).zip (d.drop (d.length - (r.length + 1)))) else none
noncomputable def binds : Loc → List (Nat × Pos) → List AV → Option Loc
  | l, [], [] => some l
  | l, (x, _) :: r, v :: t => binds (aput l x v) r t
  | _, _, _ => none
noncomputable def noBi : AV → Option AV
  | .bi _ => none
  | v => some v
noncomputable def lenPs : PEs → Nat
  | .nil => 0
  | .cons _ r => lenPs r + 1
noncomputable def methOf (tb : Tb) (σ : Sig) (i n : Nat) : Option Nat := match look σ i with
  | some (.inst c d) => match aget tb.clsT c, look σ d with
    | some R, some (.dct es) => match aget es n with
      | none => aget R.meths n
      | some _ => none
    | _, _ => none
  | _ => none
noncomputable def attOf (tb : Tb) (σ : Sig) (i n : Nat) : Option AV := match look σ i with
  | some (.inst c d) => match aget tb.clsT c, look σ d with
    | some R, some (.dct es) => bif nelem R.attrs n then (aget es n).bind noBi else none
    | _, _ => none
  | _ => none
noncomputable def attSet (tb : Tb) (σ : Sig) (i n : Nat) (v : AV) : Option Sig := match look σ i with
  | some (.inst c d) => match aget tb.clsT c, look σ d with
    | some R, some (.dct es) => bif nelem R.attrs n && small (es.length + 1) then some (store σ d (.dct (aput es n v))) else none
    | _, _ => none
  | _ => none
noncomputable def sjoin (xs : List AV) : Option (List Nat) := match xs with
  | [] => some []
  | .str s :: r => (sjoin r).map (s ++ ·)
  | _ => none
noncomputable def isCall : AV → Bool
  | .fn _ => true
  | .cls _ => true
  | .bi _ => true
  | _ => false
noncomputable def isSym1 : List AV → Bool
  | [.sym 1] => true
  | _ => false
noncomputable def callV (tb : Tb) (ih : Itp) (fi : FI) (f : AV) (as : List AV) (σ : Sig) : Out AV := match f with
  | .fn k => (match fi.cc with
    | 0 => .stuck
    | c + 1 => bif Nat.beq k tb.fFig then (bif tb.fig && isSym1 as then .ok (.int tb.D) σ else .stuck) else ih.cl c k as σ)
  | .cls k => (match fi.cc with
    | 0 => .stuck
    | c + 1 => (match aget tb.clsT k with
      | some R => (ih.cl c R.init (.ref (σ.nxt + 1) :: as) ⟨(σ.nxt + 1, .inst k σ.nxt) :: (σ.nxt, .dct []) :: σ.led, σ.nxt + 2⟩).bind fun r σ' => match r with | .none => .ok (.ref (σ.nxt + 1)) σ' | _ => .stuck
      | none => .stuck))
  | .bi k => callBi tb σ k as
  | _ => .stuck
noncomputable def splitV (tb : Tb) (s : List Nat) (as : List AV) (σ : Sig) : Out AV := match as with
  | [.str [32]] => (match sget tb.tSplit s with | some ps => bif small ps.length then .ok (.ref (alloc σ (.lst (ps.map .str))).1) (alloc σ (.lst (ps.map .str))).2 else .stuck | none => .stuck)
  | _ => .stuck
noncomputable def joinL (σ : Sig) (i : Nat) : Option (List Nat) := match look σ i with
  | some (.lst xs) => (sjoin xs).bind fun t => bif small t.length && small xs.length then some t else none
  | _ => none
noncomputable def joinV (s : List Nat) (as : List AV) (σ : Sig) : Out AV := match s, as with
  | [], [.ref i] => (ofOpt (joinL σ i) σ).bind fun t σ => .ok (.str t) σ
  | _, _ => .stuck
noncomputable def findV (tb : Tb) (s : List Nat) (as : List AV) (σ : Sig) : Out AV := match as with
  | [.str [41], .int (.ofNat k)] => (ofOpt (fget tb.tFind s k) σ).bind fun r σ => .ok (.int r) σ
  | _ => .stuck
noncomputable def strM (tb : Tb) (s : List Nat) (n : Nat) (o : Out (List AV)) : Out AV :=
  bif Nat.beq n tb.nSplit then o.bind fun vs σ => splitV tb s vs σ
  else bif Nat.beq n tb.nJoin then o.bind fun vs σ => joinV s vs σ
  else bif Nat.beq n tb.nFind then o.bind fun vs σ => findV tb s vs σ
  else .stuck
noncomputable def appV (i : Nat) (xs as : List AV) (σ : Sig) : Out AV := match as with
  | [v] => bif small xs.length then .ok .none (store σ i (.lst (xs ++ [v]))) else .stuck
  | _ => .stuck
noncomputable def lstM (i : Nat) (as : List AV) (σ : Sig) : Out AV := match look σ i with
  | some (.lst xs) => appV i xs as σ
  | _ => .stuck
noncomputable def cmpS (tb : Tb) (σ : Sig) (x : AV) (op : CmpOp) (y : AV) : Option Bool := match x, op, y with
  | .sym 0, .Lt, .int k => bif decide (k = 0) then some tb.neg else none
  | _, _, _ => cmpv σ op x y
noncomputable def unV (op : UnaryOp) (x : AV) (σ : Sig) : Out AV := match op, x with
  | .Not, .bool b => .ok (.bool (!b)) σ
  | .USub, .int k => .ok (.int (-k)) σ
  | _, _ => .stuck
noncomputable def sl1V (σ : Sig) (x y : AV) : Out AV := match x, y with
  | .ref i, .int (.ofNat k) => (match look σ i with
    | some (.tup xs) => bif small xs.length && Nat.ble 1 k && Nat.ble k xs.length then .ok (.ref (alloc σ (.tup (xs.drop k))).1) (alloc σ (.tup (xs.drop k))).2 else .stuck
    | _ => .stuck)
  | _, _ => .stuck
noncomputable def sl2V (σ : Sig) (x y z : AV) : Out AV := match x, y, z with
  | .str s, .int (.ofNat k), .int (.ofNat m) => bif small s.length && Nat.ble k m && Nat.ble k s.length then .ok (.str (cut s k m)) σ else .stuck
  | _, _, _ => .stuck
noncomputable def isL (σ : Sig) (i : Nat) : Bool := match look σ i with
  | some (.lst _) => true
  | _ => false
noncomputable def mcallV (tb : Tb) (ih : Itp) (fi : FI) (l : Loc) (as : PEs) (x : AV) (n : Nat) (σ : Sig) : Out AV := match x with
  | .ref i => match methOf tb σ i n with
    | some k => (match fi.cc with | 0 => .stuck | c + 1 => (ih.evs fi l as σ).bind fun vs σ => ih.cl c k (x :: vs) σ)
    | none => bif isL σ i && Nat.beq n tb.nAppend then (ih.evs fi l as σ).bind fun vs σ => lstM i vs σ else .stuck
  | .str s => strM tb s n (ih.evs fi l as σ)
  | _ => .stuck
noncomputable def onlyNext (o : OutS) : OutS := match o with
  | .next l σ => .next l σ
  | _ => .stuck
noncomputable def turn (o : OutS) (f : Loc → Sig → OutS) : OutS := match o with
  | .next l σ => f l σ
  | _ => .stuck
noncomputable def clOut (old : Nat) (o : OutS) : Out AV := match o with
  | .next _ σ' => .ok .none (drop old .none σ')
  | .ret v σ' => .ok v (drop old v σ')
  | .exc σ' => .exc (drop old .none σ')
  | .rai σ' => .exc (drop old .none σ')
  | .stuck => .stuck
noncomputable def scOk (sc : List (Nat × Nat)) : Bool := sc.all fun q => Nat.ble q.2 1 && (match aget sc q.1 with | some k => Nat.beq k q.2 | none => false)
noncomputable def tsOk (sc : List (Nat × Nat)) (ts : List (Nat × Pos)) : Bool := ts.all fun q => match aget sc q.1 with | some 0 => true | _ => false
noncomputable def glbOf : List (Nat × Nat) → List Nat
  | [] => []
  | q :: r => bif Nat.beq q.2 1 then q.1 :: glbOf r else glbOf r
noncomputable def okA : List Nat → Bool
  | [] => true
  | c :: r => bif Nat.blt c 128 then okA r else false
noncomputable def isT (σ : Sig) (i : Nat) : Bool := match look σ i with
  | some (.tup _) => true
  | _ => false
noncomputable def srcOk (σ : Sig) (x : AV) : Bool := match x with
  | .ref i => isL σ i || isT σ i
  | .str s => okA s && small s.length
  | _ => false
/-- the source as the turns know it: a tuple by its place -/
noncomputable def srcOf (σ : Sig) (x : AV) : AV := match x with
  | .ref i => bif isT σ i then .sym i else .ref i
  | x => x
noncomputable def srcAt (σ : Sig) (src : AV) (j : Nat) : Option (Option AV) := match src with
  | .ref i => (match look σ i with | some (.lst xs) => some (nth xs j) | _ => none)
  | .sym i => (match look σ i with | some (.tup xs) => some (nth xs j) | _ => none)
  | .str s => some ((nth s j).map fun c => .str [c])
  | _ => none
noncomputable def bindT (l : Loc) (ts : List (Nat × Pos)) (tp : Option Pos) (x : AV) (σ : Sig) : Option Loc := match tp with
  | none => (match ts with | [(n, _)] => some (aput l n x) | _ => none)
  | some _ => (match x with
    | .ref i => (match look σ i with | some (.tup vs) => binds l ts vs | _ => none)
    | _ => none)
noncomputable def testC (ih : Itp) (fi : FI) (l : Loc) (ifs : PEs) (σ : Sig) : Out Bool := match ifs with
  | .nil => .ok true σ
  | .cons c .nil => ih.tr fi l c σ
  | _ => .stuck
noncomputable def compE (old : Nat) (o : Out (List AV)) : Out AV := match o with
  | .ok vs σ => bif small vs.length then .ok (.ref (alloc σ (.lst vs)).1) (drop old (.ref (alloc σ (.lst vs)).1) (alloc σ (.lst vs)).2) else .stuck
  | _ => .stuck
noncomputable def dyn0 : PE → Bool
  | .loc _ _ => true
  | .lst _ _ => true
  | .call _ _ _ => true
  | _ => false
noncomputable def dynE : PE → Bool
  | .bin _ a _ _ => dyn0 a
  | .sub a _ _ => dyn0 a
  | e => dyn0 e
noncomputable def noComp : PE → Bool
  | .comp .. => false
  | _ => true
noncomputable def set2 (l : Loc) (x y : Nat) (vs : List AV) (σ : Sig) : OutS := match vs with
  | [v, u] => .next (aput (aput l y u) x v) σ
  | _ => .stuck
noncomputable def unp2 (l : Loc) (x y : Nat) (v : AV) (σ : Sig) : OutS := match v with
  | .ref i => match look σ i with
    | some (.tup [v, u]) => .next (aput (aput l x v) y u) σ
    | _ => .stuck
  | _ => .stuck
noncomputable def setA (tb : Tb) (l : Loc) (x : AV) (n : Nat) (v : AV) (σ : Sig) : OutS := match x with
  | .ref i => (match attSet tb σ i n v with | some σ' => .next l σ' | none => .stuck)
  | _ => .stuck
noncomputable def setI (l : Loc) (x y v : AV) (σ : Sig) : OutS := match x, y with
  | .ref a, .int (.negSucc 0) => (match look σ a with
    | some (.lst xs) => bif small xs.length && Nat.ble 1 xs.length then .next l (store σ a (.lst (xs.set (xs.length - 1) v))) else .stuck
    | _ => .stuck)
  | _, _ => .stuck
noncomputable def isNone (l : Loc) (v : AV) (σ : Sig) : OutS := match v with
  | .none => .next l σ
  | _ => .stuck
noncomputable def forV (ih : Itp) (fi : FI) (l : Loc) (x : Nat) (b : PSs) (v : AV) (σ : Sig) : OutS := match v with
  | .ref i => bif isL σ i then onlyNext (ih.fr fi l x (alloc σ (.lit i 0)).1 b (alloc σ (.lit i 0)).2) else .stuck
  | _ => .stuck
noncomputable def notSc (sc : List (Nat × Nat)) (x : Nat) : Bool := match aget sc x with
  | none => true
  | some k => !Nat.beq k 0
noncomputable def asgC (l : Loc) (x : Nat) (o : Out AV) : OutS := match o with
  | .ok v σ => .next (aput l x v) σ
  | _ => .stuck
noncomputable def raiS (v : AV) (σ : Sig) : OutS := match v with
  | .str s => bif small s.length then .rai σ else .stuck
  | _ => .stuck
noncomputable def isExc : AV → Bool
  | .cls 1000 => true
  | _ => false
noncomputable def raisV (tb : Tb) (ih : Itp) (fi : FI) (l : Loc) (x : Nat) (xp : Pos) (a : PE) (σ : Sig) : OutS := match fi.cc with
  | 0 => .stuck
  | _ + 1 => (ih.ev fi l (.glb x xp) σ).bindS fun f σ => bif isExc f then (ih.ev fi l a σ).bindS fun v σ => raiS v σ else .stuck
noncomputable def triV (tb : Tb) (fi : FI) (x : Nat) (c : PC) (o : OutS) : OutS := match o with
  | .exc σ => (match aget tb.gT x with
    | some f => bif nelem fi.glbs x && isExc f then .ret (constV c) σ else .stuck
    | none => .stuck)
  | .ret v σ => .ret v σ
  | _ => .stuck
noncomputable def step (tb : Tb) (ih : Itp) : Itp where
  ev := fun fi l e σ => match e with
    | .loc x _ => ofOpt (aget l x) σ
    | .glb x _ => bif nelem fi.glbs x then ofOpt (aget tb.gT x) σ else .stuck
    | .cel x _ => ofOpt (aget fi.cel x) σ
    | .cst c _ => .ok (constV c) σ
    | .tup es _ => (ih.evs fi l es σ).bind fun vs σ => bif small vs.length then (let r := alloc σ (.tup vs); .ok (.ref r.1) r.2) else .stuck
    | .lst es _ => (ih.evs fi l es σ).bind fun vs σ => bif small vs.length then (let r := alloc σ (.lst vs); .ok (.ref r.1) r.2) else .stuck
    | .bin op a b _ => (ih.ev fi l a σ).bind fun x σ => (ih.ev fi l b σ).bind fun y σ => binv σ op x y
    | .un op a _ => (ih.ev fi l a σ).bind fun x σ => unV op x σ
    | .bop op es bp => match es with
      | .nil => .stuck
      | .cons e .nil => ih.ev fi l e σ
      | .cons e (.cons e' r) => (ih.ev fi l e σ).bind fun v σ => (truth v σ).bind fun b σ => match op with
        | .And => bif b then ih.ev fi l (.bop op (.cons e' r) bp) σ else .ok v σ
        | .Or => bif b then .ok v σ else ih.ev fi l (.bop op (.cons e' r) bp) σ
    | .cmp a op b _ => (ih.ev fi l a σ).bind fun x σ => (ih.ev fi l b σ).bind fun y σ => (ofOpt (cmpS tb σ x op y) σ).bind fun b σ => .ok (.bool b) σ
    | .cmp2 .. => .stuck
    | .ife t a b _ => (ih.tr fi l t σ).bind fun c σ => bif c then ih.ev fi l a σ else ih.ev fi l b σ
    | .call (.glb x xp) as _ => (ih.ev fi l (.glb x xp) σ).bind fun g σ => bif isCall g then (ih.evs fi l as σ).bind fun vs σ => callV tb ih fi g vs σ else .stuck
    | .call (.loc x xp) as _ => (ih.ev fi l (.loc x xp) σ).bind fun g σ => bif isCall g then (ih.evs fi l as σ).bind fun vs σ => callV tb ih fi g vs σ else .stuck
    | .mcall o n np as p => bif Nat.blt (lenPs as) 30 && Nat.beq np.endLine p.line then (ih.ev fi l o σ).bind fun x σ => mcallV tb ih fi l as x n σ else .stuck
    | .att (.loc v vp) n _ => (ih.ev fi l (.loc v vp) σ).bind fun x σ => match x with | .ref i => ofOpt (attOf tb σ i n) σ | _ => .stuck
    | .sub o i _ => (ih.ev fi l o σ).bind fun x σ => (ih.ev fi l i σ).bind fun y σ => ofOpt (subv σ x y) σ
    | .sl1 (.loc v vp) a _ _ => (ih.ev fi l (.loc v vp) σ).bind fun x σ => (ih.ev fi l a σ).bind fun y σ => sl1V σ x y
    | .sl2 (.loc v vp) a b _ _ => (ih.ev fi l (.loc v vp) σ).bind fun x σ => (ih.ev fi l a σ).bind fun y σ => (ih.ev fi l b σ).bind fun z σ => sl2V σ x y z
    | .comp elt ts tp it ifs sc _ => bif scOk sc && tsOk sc ts then (ih.ev fi l it σ).bind fun x σ => bif srcOk σ x then
        compE σ.nxt ((ih.cmp ⟨ts.map (·.1), glbOf sc, fi.cc, []⟩ [] elt ts tp ifs (srcOf σ x) 0 σ)) else .stuck else .stuck
    | _ => .stuck
  evs := fun fi l es σ => match es with
    | .nil => .ok [] σ
    | .cons e r => (ih.ev fi l e σ).bind fun v σ => (ih.evs fi l r σ).bind fun vs σ => .ok (v :: vs) σ
  tr := fun fi l e σ => match e with
    | .un .Not a _ => (ih.tr fi l a σ).bind fun b σ => .ok (!b) σ
    | .bop op es _ => ih.trs op fi l es σ
    | .cmp a op b _ => (ih.ev fi l a σ).bind fun x σ => (ih.ev fi l b σ).bind fun y σ => ofOpt (cmpS tb σ x op y) σ
    | .cmp2 a o1 b o2 c _ => (ih.ev fi l a σ).bind fun x σ => (ih.ev fi l b σ).bind fun y σ => (ofOpt (cmpS tb σ x o1 y) σ).bind fun r σ =>
      bif r then (ih.ev fi l c σ).bind fun z σ => ofOpt (cmpS tb σ y o2 z) σ else .ok false σ
    | .ife .. => .stuck
    | e => (ih.ev fi l e σ).bind fun v σ => truth v σ
  trs := fun op fi l es σ => match es with
    | .nil => .ok (match op with | .And => true | .Or => false) σ
    | .cons e r => (ih.tr fi l e σ).bind fun b σ => match op with
      | .And => bif b then ih.trs op fi l r σ else .ok false σ
      | .Or => bif b then .ok true σ else ih.trs op fi l r σ
  ex := fun fi l s σ => match s with
    | .asg x xp (.comp elt ts tp it ifs sc cp) _ => bif notSc sc x && Nat.beq xp.line cp.line && nelem fi.locs x && scOk sc && tsOk sc ts then (ih.ev fi l it σ).bindS fun y σ => bif srcOk σ y then
        asgC l x (compE σ.nxt (ih.cmp ⟨ts.map (·.1), glbOf sc, fi.cc, []⟩ [] elt ts tp ifs (srcOf σ y) 0 σ)) else .stuck else .stuck
    | .asg x _ e _ => (ih.ev fi l e σ).bindS fun v σ => bif nelem fi.locs x then .next (aput l x v) σ else .stuck
    | .asgT [(x, xp), (y, yp)] _ (.tup (.cons a (.cons b .nil)) _) _ => bif Nat.beq xp.line yp.line && !Nat.beq x y && (dynE a || dynE b) && nelem fi.locs x && nelem fi.locs y then
        (ih.evs fi l (.cons a (.cons b .nil)) σ).bindS fun vs σ => set2 l x y vs σ else .stuck
    | .asgT [(x, _), (y, _)] _ (.loc z zp) _ => bif nelem fi.locs x && nelem fi.locs y then (ih.ev fi l (.loc z zp) σ).bindS fun v σ => unp2 l x y v σ else .stuck
    | .asgT [(x, _), (y, _)] _ (.call f as cp) _ => bif nelem fi.locs x && nelem fi.locs y then (ih.ev fi l (.call f as cp) σ).bindS fun v σ => unp2 l x y v σ else .stuck
    | .asgA (.loc u up) n _ e _ => bif noComp e then (ih.ev fi l e σ).bindS fun v σ => (ih.ev fi l (.loc u up) σ).bindS fun x σ => setA tb l x n v σ else .stuck
    | .asgS (.loc u up) i _ e _ => bif noComp e then (ih.ev fi l e σ).bindS fun v σ => (ih.ev fi l (.loc u up) σ).bindS fun x σ => (ih.ev fi l i σ).bindS fun y σ => setI l x y v σ else .stuck
    | .ret e _ => (ih.ev fi l e σ).bindS fun v σ => .ret v σ
    | .retN _ => .ret .none σ
    | .ifs t a b _ => (ih.tr fi l t σ).bindS fun c σ => bif c then ih.exs fi l a σ else ih.exs fi l b σ
    | .whl t b _ => onlyNext (ih.whl fi l t b σ)
    | .for_ x _ it b _ => bif nelem fi.locs x then (ih.ev fi l it σ).bindS fun v σ => forV ih fi l x b v σ else .stuck
    | .exp e _ => bif noComp e then (ih.ev fi l e σ).bindS fun v σ => isNone l v σ else .stuck
    | .rais (.call (.glb x xp) (.cons a .nil) _) _ => raisV tb ih fi l x xp a σ
    | .tri b (.glb x _) (.cons (.ret (.cst c _) _) .nil) _ _ => triV tb fi x c (ih.exs fi l b σ)
    | _ => .stuck
  exs := fun fi l ss σ => match ss with
    | .nil => .next l σ
    | .cons s r => match ih.ex fi l s σ with
      | .next l σ => ih.exs fi l r σ
      | r => r
  whl := fun fi l t b σ => match ih.tr fi l t σ with
    | .ok c σ => bif c then turn (ih.exs fi l b σ) fun l σ => onlyNext (ih.whl fi l t b σ) else .next l σ
    | _ => .stuck
  fr := fun fi l x k b σ => match look σ k with
    | some (.lit i j) => match look σ i with
      | some (.lst xs) => match nth xs j with
        | some v => turn (ih.exs fi (aput l x v) b (store σ k (.lit i (j + 1)))) fun l σ => onlyNext (ih.fr fi l x k b σ)
        | none => .next l (dropId σ k)
      | _ => .stuck
    | _ => .stuck
  cl := fun c k as σ => match aget tb.fnT k with
    | some R => match zipP R.params as R.dflts with
      | some l => clOut σ.nxt (ih.exs ⟨R.locs, R.glbs, c, []⟩ l R.body σ)
      | none => .stuck
    | none => .stuck
  cmp := fun fi l elt ts tp ifs src j σ => match srcAt σ src j with
    | none => .stuck
    | some none => .ok [] σ
    | some (some x) => match bindT l ts tp x σ with
      | none => .stuck
      | some l' => bif Nat.ble j 1000 then (testC ih fi l' ifs σ).bind fun ok σ1 =>
          bif ok then (ih.ev fi l' elt σ1).bind fun v σ2 => (ih.cmp fi l' elt ts tp ifs src (j + 1) (drop σ.nxt v σ2)).bind fun vs σ3 => .ok (v :: vs) σ3
          else ih.cmp fi l' elt ts tp ifs src (j + 1) (drop σ.nxt .none σ1) else .stuck
noncomputable def bot : Itp where
  ev := fun _ _ _ _ => .stuck
  evs := fun _ _ _ _ => .stuck
  tr := fun _ _ _ _ => .stuck
  trs := fun _ _ _ _ _ => .stuck
  ex := fun _ _ _ _ => .stuck
  exs := fun _ _ _ _ => .stuck
  whl := fun _ _ _ _ _ => .stuck
  fr := fun _ _ _ _ _ _ => .stuck
  cl := fun _ _ _ _ => .stuck
  cmp := fun _ _ _ _ _ _ _ _ _ => .stuck
noncomputable def run (tb : Tb) : Nat → Itp
  | 0 => bot
  | n + 1 => step tb (run tb n)
end Mine
end

section
set_option maxRecDepth 100000
namespace Mine
open PySem PySem.W PyProof.Rows PySem.Calls
inductive All2 {α β : Type} (R : α → β → Prop) : List α → List β → Prop where
  | nil : All2 R [] []
  | cons {a b l m} : R a b → All2 R l m → All2 R (a :: l) (b :: m)
theorem All2.imp {α β : Type} {R S : α → β → Prop} (h : ∀ a b, R a b → S a b) {l m} (x : All2 R l m) : All2 S l m := by
  induction x with
  | nil => exact .nil
  | cons a _ ih => exact .cons (h _ _ a) ih
theorem All2.length {α β : Type} {R : α → β → Prop} {l m} (x : All2 R l m) : l.length = m.length := by
  induction x with
  | nil => rfl
  | cons _ _ ih => rw [List.length_cons, List.length_cons, ih]
theorem All2.append {α β : Type} {R : α → β → Prop} {l m l' m'} (x : All2 R l m) (y : All2 R l' m') : All2 R (l ++ l') (m ++ m') := by
  induction x with
  | nil => exact y
  | cons a _ ih => exact .cons a ih
theorem All2.drop {α β : Type} {R : α → β → Prop} {l m} (x : All2 R l m) (n : Nat) : All2 R (l.drop n) (m.drop n) := by
  induction x generalizing n with
  | nil => rw [List.drop_nil, List.drop_nil]; exact .nil
  | cons a r ih => cases n with
    | zero => exact .cons a r
    | succ n => exact ih n
theorem All2.take {α β : Type} {R : α → β → Prop} {l m} (x : All2 R l m) (n : Nat) : All2 R (l.take n) (m.take n) := by
  induction x generalizing n with
  | nil => rw [List.take_nil, List.take_nil]; exact .nil
  | cons a r ih => cases n with
    | zero => exact .nil
    | succ n => exact .cons a (ih n)
theorem nth_get {α : Type} : ∀ (l : List α) (n : Nat), nth l n = l[n]?
  | [], n => by cases n <;> rfl
  | x :: r, 0 => rfl
  | x :: r, n + 1 => by show nth r n = _; rw [nth_get r n]; rfl
theorem All2.get {α β : Type} {R : α → β → Prop} {l : List α} {m : List β} (x : All2 R l m) {n : Nat} {a : α} (h : l[n]? = some a) : ∃ b, m[n]? = some b ∧ R a b := by
  induction x generalizing n with
  | nil => cases h
  | cons r _ ih => cases n with
    | zero => cases h; exact ⟨_, rfl, r⟩
    | succ n => exact ih h
/-- what the letters of the small language stand for -/
structure Mn where
  nm : Nat → PySem.Str
  fA : Nat → Addr
  cA : Nat → Addr
  bV : Nat → Value
  io : Nat → Int
  D : Int
  inj : ∀ i j, nm i = nm j → i = j
inductive VR (G : Mn) (ρ : List Addr) : AV → Value → Prop where
  | none : VR G ρ .none .none
  | bool (b) : VR G ρ (.bool b) (.bool b)
  | int (k t) : VR G ρ (.int k) (.int k t)
  | str (s : List Nat) (t) : VR G ρ (.str s) (.str ⟨s.toArray⟩ t)
  | byt (a : Array UInt8) (t) : VR G ρ (.byt a.size) (.bytes a t)
  | ref {i : Nat} {a : Addr} : ρ[i]? = some a → VR G ρ (.ref i) (.ref a)
  | fn (k) : VR G ρ (.fn k) (.ref (G.fA k))
  | cls (k) : VR G ρ (.cls k) (.ref (G.cA k))
  | bi (k) : VR G ρ (.bi k) (G.bV k)
  | sym (k t) : VR G ρ (.sym k) (.int (G.io k) t)
  | sstr (x : PySem.Str) (t) : (x.length : Int) = G.D → VR G ρ .sstr (.str x t)
noncomputable abbrev VRs (G : Mn) (ρ : List Addr) := All2 (VR G ρ)
noncomputable def EntR (G : Mn) (ρ : List Addr) (p : Nat × AV) (e : DictEntry) : Prop := (∃ t, e.key = .str (G.nm p.1) t) ∧ VR G ρ p.2 e.val
inductive OR (G : Mn) (ρ : List Addr) : AO → Obj → Prop where
  | tup {vs : List AV} {xs : List Value} (n) : VRs G ρ vs xs → OR G ρ (.tup vs) { cls := .type "tuple", data := .seq xs.toArray n }
  | lst {vs : List AV} {xs : List Value} (n) : VRs G ρ vs xs → OR G ρ (.lst vs) (listOf xs.toArray n)
  | inst {c d : Nat} {a : Addr} : ρ[d]? = some a → OR G ρ (.inst c d) (instObj (G.cA c) a)
  | dct {es : List (Nat × AV)} {xs : List DictEntry} (n) : All2 (EntR G ρ) es xs → OR G ρ (.dct es) (dictOf xs n)
  | lit {l j : Nat} {a : Addr} {o : Obj} : ρ[l]? = some a → o.cls = .type "list_iterator" → o.data = .fields #[.ref a, rawInt j] → OR G ρ (.lit l j) o
noncomputable abbrev Rel (G : Mn) (ρ : List Addr) (led : Led) (news : List (Addr × Obj)) : Prop := All2 (fun p q => ρ[p.1]? = some q.1 ∧ OR G ρ p.2 q.2) led news
section
variable {G : Mn} {ρ ρ' : List Addr}
theorem pre_get {l l' : List Addr} (h : l <+: l') {i : Nat} {a : Addr} (e : l[i]? = some a) : l'[i]? = some a := by
  obtain ⟨t, rfl⟩ := h
  rw [List.getElem?_append_left (List.getElem?_eq_some_iff.mp e).1]; exact e
theorem VR.mono (h : ρ <+: ρ') {v x} (r : VR G ρ v x) : VR G ρ' v x := by
  cases r with
  | none => exact .none
  | bool b => exact .bool b
  | int k t => exact .int k t
  | str s t => exact .str s t
  | byt a t => exact .byt a t
  | ref e => exact .ref (pre_get h e)
  | fn k => exact .fn k
  | cls k => exact .cls k
  | bi k => exact .bi k
  | sym k t => exact .sym k t
  | sstr x t e => exact .sstr x t e
theorem VRs.mono (h : ρ <+: ρ') {v x} (r : VRs G ρ v x) : VRs G ρ' v x := All2.imp (fun _ _ => VR.mono h) r
theorem OR.mono (h : ρ <+: ρ') {v x} (r : OR G ρ v x) : OR G ρ' v x := by
  cases r with
  | tup n a => exact .tup n (VRs.mono h a)
  | lst n a => exact .lst n (VRs.mono h a)
  | inst e => exact .inst (pre_get h e)
  | dct n a => exact .dct n (a.imp fun _ _ y => ⟨y.1, y.2.mono h⟩)
  | lit e hc hd => exact .lit (pre_get h e) hc hd
theorem OR.live {v x} (r : OR G ρ v x) : x.isFreed = false := by
  cases r with
  | lit e hc hd => exact Obj.isFreed_of_fields hd
  | _ => rfl
theorem aget_mem {α : Type} {l : List (Nat × α)} {i : Nat} {o : α} (h : aget l i = some o) : (i, o) ∈ l := by
  induction l with
  | nil => cases h
  | cons p r ih =>
    unfold aget at h
    cases q : Nat.beq p.1 i with
    | true =>
      rw [q] at h
      cases h
      have := Nat.eq_of_beq_eq_true q
      subst this
      exact .head _
    | false => rw [q] at h; exact .tail _ (ih h)
/-- an object's place in the ledger -/
theorem Rel.find {led : Led} {news : List (Addr × Obj)} (R : Rel G ρ led news) {i : Nat} {ao : AO} (h : aget led i = some ao) :
    ∃ a o, ρ[i]? = some a ∧ (a, o) ∈ news ∧ OR G ρ ao o := by
  induction R with
  | nil => cases h
  | @cons p q led' news' pq _ ih =>
    unfold aget at h
    cases z : Nat.beq p.1 i with
    | true =>
      rw [z] at h
      cases h
      have := Nat.eq_of_beq_eq_true z
      subst this
      exact ⟨q.1, q.2, pq.1, .head _, pq.2⟩
    | false =>
      rw [z] at h
      obtain ⟨a, o, h1, h2, h3⟩ := ih h
      exact ⟨a, o, h1, .tail _ h2, h3⟩
theorem Rel.mono (h : ρ <+: ρ') {led : Led} {news : List (Addr × Obj)} (R : Rel G ρ led news) : Rel G ρ' led news := All2.imp (fun _ _ y => ⟨pre_get h y.1, y.2.mono h⟩) R
theorem Rel.alloc {led : Led} {news : List (Addr × Obj)} (R : Rel G ρ led news) {a : Addr} {ao : AO} {o : Obj} (ho : OR G (ρ ++ [a]) ao o) :
    Rel G (ρ ++ [a]) ((ρ.length, ao) :: led) ((a, o) :: news) := .cons ⟨by simp, ho⟩ (R.mono ⟨[a], rfl⟩)
/-- an object in place of another at the same place -/
theorem Rel.set {led : Led} {news : List (Addr × Obj)} (R : Rel G ρ led news) {i : Nat} {ao : AO} (h : aget led i = some ao) :
    ∃ a o pre post, ρ[i]? = some a ∧ OR G ρ ao o ∧ news = pre ++ (a, o) :: post ∧
      ∀ ao' o', OR G ρ ao' o' → Rel G ρ (aset led i ao') (pre ++ (a, o') :: post) := by
  induction R with
  | nil => cases h
  | @cons p q led' news' pq rest ih =>
    unfold aget at h
    cases z : Nat.beq p.1 i with
    | true =>
      rw [z] at h
      cases h
      have := Nat.eq_of_beq_eq_true z
      subst this
      refine ⟨q.1, q.2, [], news', pq.1, pq.2, rfl, fun ao' o' ho' => ?_⟩
      unfold aset
      rw [z]
      exact .cons ⟨pq.1, ho'⟩ rest
    | false =>
      rw [z] at h
      obtain ⟨a, o, pre, post, h1, h2, h3, h6⟩ := ih h
      refine ⟨a, o, q :: pre, post, h1, h2, by rw [h3]; rfl, fun ao' o' ho' => ?_⟩
      unfold aset
      rw [z]
      exact .cons pq (h6 ao' o' ho')
theorem Rel.drop {led : Led} {news : List (Addr × Obj)} (R : Rel G ρ led news) (f : Nat → Bool) : ∃ news', news'.Sublist news ∧ Rel G ρ (keepIf f led) news' := by
  induction R with
  | nil => exact ⟨[], .slnil, .nil⟩
  | @cons p q led' news' pq rest ih =>
    obtain ⟨nw, h1, h2⟩ := ih
    unfold keepIf
    cases f p.1 with
    | false => exact ⟨nw, .cons _ h1, h2⟩
    | true => exact ⟨q :: nw, .cons₂ _ h1, .cons pq h2⟩
theorem Rel.dropNew {led : Led} {news : List (Addr × Obj)} (R : Rel G ρ led news) (old : Nat) (f : Nat → Bool) : ∃ news', news'.Sublist news ∧ Rel G ρ (keepNew old f led) news' := by
  induction R with
  | nil => exact ⟨[], .slnil, .nil⟩
  | @cons p q led' news' pq rest ih =>
    unfold keepNew
    cases Nat.blt p.1 old with
    | true => exact ⟨q :: news', List.Sublist.refl _, .cons pq rest⟩
    | false =>
      obtain ⟨nw, h1, h2⟩ := ih
      cases f p.1 with
      | false => exact ⟨nw, .cons _ h1, h2⟩
      | true => exact ⟨q :: nw, .cons₂ _ h1, .cons pq h2⟩
end
end Mine
end

section
set_option maxRecDepth 100000
namespace Mine
open PySem PySem.W PyProof.Rows PySem.Calls
/-! the terms as Python -/
noncomputable def cE : PC → Const
  | .none => .none | .bool b => .bool b | .int i => .int i | .str s => .str ⟨s.toArray⟩ | .byt b => .bytes (b.map UInt8.ofNat)
noncomputable def scK : Nat → NameKind
  | 0 => .local | 1 => .globalImplicit | _ => .free
noncomputable def scE (nm : Nat → PySem.Str) (sc : List (Nat × Nat)) : Scope := { kind := .function, names := sc.map fun q => (nm q.1, scK q.2), isGenerator := false, isCoroutine := false, more := [] }
noncomputable def tgE (nm : Nat → PySem.Str) (ts : List (Nat × Pos)) (tp : Option Pos) : Expr := match tp, ts with
  | none, (x, p) :: _ => .Name (nm x) p
  | none, [] => .Tuple [] 0 ⟨0, 0, 0, 0⟩
  | some p, ts => .Tuple (ts.map fun q => .Name (nm q.1) q.2) 0 p
mutual
noncomputable def toE (nm : Nat → PySem.Str) : PE → Expr
  | .loc x p => .Name (nm x) p
  | .glb x p => .Name (nm x) p
  | .cel x p => .Name (nm x) p
  | .cst c p => .Constant (cE c) 0 p
  | .tup es p => .Tuple (toEs nm es) 0 p
  | .lst es p => .List (toEs nm es) p
  | .bin op a b p => .BinOp (toE nm a) op (toE nm b) p
  | .un op a p => .UnaryOp op (toE nm a) p
  | .bop op es p => .BoolOp op (toEs nm es) p
  | .cmp a op b p => .Compare (toE nm a) [op] [toE nm b] p
  | .cmp2 a o1 b o2 c p => .Compare (toE nm a) [o1, o2] [toE nm b, toE nm c] p
  | .ife t a b p => .IfExp (toE nm t) (toE nm a) (toE nm b) p
  | .call f as p => .Call (toE nm f) (toEs nm as) [] p
  | .mcall o n np as p => .Call (.Attribute (toE nm o) (nm n) np) (toEs nm as) [] p
  | .att o n p => .Attribute (toE nm o) (nm n) p
  | .sub o i p => .Subscript (toE nm o) (toE nm i) p
  | .sl1 o l sp p => .Subscript (toE nm o) (.Slice (some (toE nm l)) none none sp) p
  | .sl2 o l u sp p => .Subscript (toE nm o) (.Slice (some (toE nm l)) (some (toE nm u)) none sp) p
  | .comp elt ts tp it ifs sc p => .ListComp (toE nm elt) [⟨tgE nm ts tp, toE nm it, toEs nm ifs, 0⟩] (scE nm sc) p
noncomputable def toEs (nm : Nat → PySem.Str) : PEs → List Expr
  | .nil => []
  | .cons e r => toE nm e :: toEs nm r
end
mutual
noncomputable def toS (nm : Nat → PySem.Str) : PS → Stmt
  | .asg x xp e p => .Assign [.Name (nm x) xp] (toE nm e) p
  | .asgT xs tp e p => .Assign [.Tuple (xs.map fun q => .Name (nm q.1) q.2) 0 tp] (toE nm e) p
  | .asgA o n np e p => .Assign [.Attribute (toE nm o) (nm n) np] (toE nm e) p
  | .asgS o i sp e p => .Assign [.Subscript (toE nm o) (toE nm i) sp] (toE nm e) p
  | .ret e p => .Return (some (toE nm e)) p
  | .retN p => .Return none p
  | .ifs t a b p => .If (toE nm t) (toSs nm a) (toSs nm b) p
  | .whl t b p => .While (toE nm t) (toSs nm b) [] p
  | .for_ x xp it b p => .For (.Name (nm x) xp) (toE nm it) (toSs nm b) [] p
  | .exp e p => .Expr (toE nm e) p
  | .rais e p => .Raise (some (toE nm e)) none p
  | .tri b ty h hp p => .Try (toSs nm b) [.ExceptHandler (some (toE nm ty)) none (toSs nm h) hp] [] [] p
noncomputable def toSs (nm : Nat → PySem.Str) : PSs → List Stmt
  | .nil => []
  | .cons s r => toS nm s :: toSs nm r
end
/-! the state -/
/-- objects whose slots may change while an exception flies: name spaces and cells -/
noncomputable def Slotty (o : Obj) : Prop := (∃ es n, o.data = .dict es n) ∨ ∃ v, o.data = .cell v
noncomputable def XR (Y X : List (Addr × Obj)) : Prop := All2 (fun y x => x.1 = y.1 ∧ (x.2 = y.2 ∨ Slotty y.2 ∧ ∃ sl, x.2 = { y.2 with slots := sl })) Y X
structure StW (G : Mn) (h₀ : Heap) (L : Addr) (m : PySem.Str → Option Value) (Y : List (Addr × Obj)) (ρ : List Addr) (σ : Sig) (h : Heap) (news X : List (Addr × Obj)) : Prop where
  len : ρ.length = σ.nxt
  F : Fr h₀ L h m
  N : News h₀ L h (news ++ X)
  nd : ((news ++ X).map (·.1)).Nodup
  R : Rel G ρ σ.led news
  X : XR Y X
noncomputable def St (G : Mn) (h₀ : Heap) (L : Addr) (m : PySem.Str → Option Value) (Y : List (Addr × Obj)) (ρ : List Addr) (σ : Sig) (h : Heap) : Prop :=
  ∃ news X, StW G h₀ L m Y ρ σ h news X
/-- an exception e of class C flies through the frames fr -/
noncomputable def Fly (G : Mn) (C : Addr) (fr : List Env) (h₀ : Heap) (L : Addr) (m : PySem.Str → Option Value) (Y : List (Addr × Obj)) (ρ : List Addr) (σ : Sig) (e : Addr) (h : Heap) : Prop :=
  ∃ news X B a0, StW G h₀ L m Y ρ σ h news X ∧ h₀.StaysIn B ∧ (∀ p ∈ news, B.get? p.1 = some p.2) ∧ (∀ p ∈ X, ¬ Slotty p.2 → B.get? p.1 = some p.2) ∧ Heap.FlyingW B fr e (.ref C) a0 h
section
variable {G : Mn} {C : Addr} {fr : List Env} {h₀ : Heap} {L : Addr} {m : PySem.Str → Option Value} {Y : List (Addr × Obj)} {α β α' β' : Type} {Q : β → Shared → Prop} {E : Value → Shared → Prop}
  {ρ ρ' : List Addr} {s : Shared}
noncomputable def PostO (G : Mn) (C : Addr) (fr : List Env) (h₀ : Heap) (L : Addr) (m : PySem.Str → Option Value) (Y : List (Addr × Obj)) (RR : List Addr → α → β → Prop) (ρ : List Addr) (o : Out α)
    (Q : β → Shared → Prop) (E : Value → Shared → Prop) (s : Shared) : Prop := match o with
  | .stuck => False
  | .ok a σ' => ∀ ρ' b h' tk', ρ <+: ρ' → St G h₀ L m Y ρ' σ' h' → RR ρ' a b → Q b { s with heap := h', toks := tk' }
  | .exc σ' => ∀ ρ' e h' tk', ρ <+: ρ' → Fly G C fr h₀ L m Y ρ' σ' e h' → E (.ref e) { s with heap := h', toks := tk' }
theorem PostO.shift {RR : List Addr → α → β → Prop} {o : Out α} (h : PostO G C fr h₀ L m Y RR ρ o Q E s) (pre : ρ <+: ρ') (h' : Heap) (tk : Nat) :
    PostO G C fr h₀ L m Y RR ρ' o Q E { s with heap := h', toks := tk } := by
  cases o with
  | stuck => exact h
  | ok a σ' => exact fun ρ'' b h₂ tk₂ p => h ρ'' b h₂ tk₂ (pre.trans p)
  | exc σ' => exact fun ρ'' b h₂ tk₂ p => h ρ'' b h₂ tk₂ (pre.trans p)
theorem PostO.bind {RR : List Addr → α → β → Prop} {RA : List Addr → α' → β' → Prop} {o : Out α'} {f : α' → Sig → Out α} (h : PostO G C fr h₀ L m Y RR ρ (o.bind f) Q E s) {Q' : β' → Shared → Prop}
    (hQ : ∀ a σ' ρ' x h' tk', o = .ok a σ' → ρ <+: ρ' → St G h₀ L m Y ρ' σ' h' → RA ρ' a x → PostO G C fr h₀ L m Y RR ρ' (f a σ') Q E { s with heap := h', toks := tk' } → Q' x { s with heap := h', toks := tk' }) :
    PostO G C fr h₀ L m Y RA ρ o Q' E s := by
  cases o with
  | stuck => exact h
  | ok a σ' => exact fun ρ' x h' tk' p st ra => hQ a σ' ρ' x h' tk' rfl p st ra (PostO.shift h p h' tk')
  | exc σ' => exact h
theorem PostO.ok {RR : List Addr → α → β → Prop} {a : α} {σ' : Sig} (h : PostO G C fr h₀ L m Y RR ρ (.ok a σ') Q E s) {ρ' : List Addr} {b : β} (h' : Heap) (tk' : Nat) (p : ρ <+: ρ') (st : St G h₀ L m Y ρ' σ' h') (r : RR ρ' a b) :
    Q b { s with heap := h', toks := tk' } := h ρ' b h' tk' p st r
theorem PostO.of_some {RR : List Addr → α → β → Prop} {o : Option α} {σ' : Sig} (h : PostO G C fr h₀ L m Y RR ρ (ofOpt o σ') Q E s) : ∃ a, o = some a ∧ PostO G C fr h₀ L m Y RR ρ (.ok a σ') Q E s := by
  cases o with
  | none => exact h.elim
  | some a => exact ⟨a, rfl, h⟩
/-- locals -/
noncomputable def LR (G : Mn) (env : Env) (ρ : List Addr) (l : Loc) (m : PySem.Str → Option Value) : Prop :=
  ∀ x a, aget l x = some a → env.kindOf (G.nm x) = some .local ∧ ∃ v, m (G.nm x) = some v ∧ VR G ρ a v
theorem LR.mono {env : Env} {l : Loc} (h : ρ <+: ρ') (r : LR G env ρ l m) : LR G env ρ' l m := fun x a e => let ⟨k, v, e', r'⟩ := r x a e; ⟨k, v, e', r'.mono h⟩
theorem aget_aput {α : Type} (l : List (Nat × α)) (i j : Nat) (v : α) : aget (aput l i v) j = if i = j then some v else aget l j := by
  induction l with
  | nil =>
    show (bif Nat.beq i j then some v else none) = _
    cases q : Nat.beq i j with
    | true => rw [if_pos (Nat.eq_of_beq_eq_true q)]; rfl
    | false => rw [if_neg (Nat.ne_of_beq_eq_false q)]; rfl
  | cons p r ih =>
    unfold aput
    cases q : Nat.beq p.1 i with
    | true =>
      have pi := Nat.eq_of_beq_eq_true q
      show (bif Nat.beq i j then some v else aget r j) = _
      cases z : Nat.beq i j with
      | true => rw [if_pos (Nat.eq_of_beq_eq_true z)]; rfl
      | false =>
        rw [if_neg (Nat.ne_of_beq_eq_false z)]
        show _ = (bif Nat.beq p.1 j then some p.2 else aget r j)
        rw [pi, z]; rfl
    | false =>
      show (bif Nat.beq p.1 j then some p.2 else aget (aput r i v) j) = if i = j then some v else (bif Nat.beq p.1 j then some p.2 else aget r j)
      rw [ih]
      cases z : Nat.beq p.1 j with
      | true =>
        have : ¬ i = j := fun e => by rw [e, z] at q; cases q
        simp [this]
      | false => by_cases e : i = j <;> simp [e]
theorem LR.put {env : Env} {l : Loc} (r : LR G env ρ l m) {x : Nat} {a : AV} {v : Value} (hk : env.kindOf (G.nm x) = some .local) (hv : VR G ρ a v) :
    LR G env ρ (aput l x a) (fun y => if y = G.nm x then some v else m y) := by
  intro y b e
  rw [aget_aput] at e
  by_cases h : x = y
  · rw [if_pos h] at e
    cases e
    subst h
    exact ⟨hk, v, by show (if G.nm x = G.nm x then some v else m (G.nm x)) = _; rw [if_pos rfl], hv⟩
  · rw [if_neg h] at e
    obtain ⟨k, u, e', r'⟩ := r y b e
    exact ⟨k, u, by show (if G.nm y = G.nm x then some v else m (G.nm y)) = _; rw [if_neg fun q => h (G.inj _ _ q).symm]; exact e', r'⟩
end
/-! the ledger's moves -/
section
variable {G : Mn} {h₀ : Heap} {L : Addr} {m : PySem.Str → Option Value} {Y : List (Addr × Obj)} {ρ : List Addr} {σ : Sig} {h h' : Heap} {news X : List (Addr × Obj)}
theorem pre_snoc (ρ : List Addr) (a : Addr) : ρ <+: ρ ++ [a] := ⟨[a], rfl⟩
theorem StW.alloc (S : StW G h₀ L m Y ρ σ h news X) {ao : AO} {o : Obj} (ho : OR G (ρ ++ [h.objs.size]) ao o) :
    St G h₀ L m Y (ρ ++ [h.objs.size]) (Mine.alloc σ ao).2 (h.push o) := by
  refine ⟨(h.objs.size, o) :: news, X, ⟨by simp [Mine.alloc, S.len], S.F.push o, S.N.push S.F o ho.live, ?_, ?_, S.X⟩⟩
  · rw [List.cons_append, List.map_cons]
    refine List.nodup_cons.mpr ⟨fun hm => ?_, S.nd⟩
    obtain ⟨p, hp, e⟩ := List.mem_map.mp hm
    exact Nat.ne_of_lt (Heap.lt_size (S.N p hp).1) e
  · have := S.R.alloc ho
    rw [S.len] at this
    exact this
/-- the same, the heap and the frame's facts given by a rule -/
theorem StW.alloc' (S : StW G h₀ L m Y ρ σ h news X) {a : Addr} (ha : h.objs.size ≤ a) {ao : AO} {o : Obj} (ho : OR G (ρ ++ [a]) ao o) (F' : Fr h₀ L h' m) (N' : News h₀ L h' ((a, o) :: (news ++ X))) :
    St G h₀ L m Y (ρ ++ [a]) (Mine.alloc σ ao).2 h' := by
  refine ⟨(a, o) :: news, X, ⟨by simp [Mine.alloc, S.len], F', N', ?_, ?_, S.X⟩⟩
  · rw [List.cons_append, List.map_cons]
    refine List.nodup_cons.mpr ⟨fun hm => ?_, S.nd⟩
    obtain ⟨p, hp, e⟩ := List.mem_map.mp hm
    exact Nat.ne_of_lt (Nat.lt_of_lt_of_le (Heap.lt_size (S.N p hp).1) ha) e
  · have := S.R.alloc ho
    rw [S.len] at this
    exact this
theorem StW.ix (S : StW G h₀ L m Y ρ σ h news X) (a : Addr) (ao : AO) : (ρ ++ [a])[(Mine.alloc σ ao).1]? = some a := by
  show (ρ ++ [a])[σ.nxt]? = _
  rw [← S.len]; simp
theorem StW.at (S : StW G h₀ L m Y ρ σ h news X) {i : Nat} {ao : AO} (e : look σ i = some ao) : ∃ a o, ρ[i]? = some a ∧ h.get? a = some o ∧ OR G ρ ao o := by
  obtain ⟨a, o, h1, h2, h3⟩ := S.R.find e
  exact ⟨a, o, h1, (S.N _ (List.mem_append_left _ h2)).1, h3⟩
/-- an object's change -/
theorem StW.upd (S : StW G h₀ L m Y ρ σ h news X) {i : Nat} {ao : AO} (e : look σ i = some ao) : ∃ a o, ρ[i]? = some a ∧ h.get? a = some o ∧ OR G ρ ao o ∧
    ∀ ao' o', OR G ρ ao' o' → ∃ news', Upd a o o' (news ++ X) news' ∧
      ∀ h', (Fr h₀ L h' m → News h₀ L h' news' → St G h₀ L m Y ρ (store σ i ao') h') := by
  obtain ⟨a, o, pre, post, h1, h2, h3, h4⟩ := S.R.set e
  have nd := S.nd
  rw [h3, List.append_assoc, List.map_append, List.nodup_append] at nd
  have d1 : ∀ p ∈ pre, p.1 ≠ a := fun p hp q => nd.2.2 p.1 (List.mem_map_of_mem hp) a (by simp) q
  have d2 : ∀ p ∈ post ++ X, p.1 ≠ a := by
    have nd2 := nd.2.1
    rw [List.cons_append, List.map_cons, List.nodup_cons] at nd2
    exact fun p hp q => nd2.1 (List.mem_map.mpr ⟨p, hp, q⟩)
  refine ⟨a, o, h1, (S.N (a, o) (by rw [h3]; simp)).1, h2, fun ao' o' ho' => ⟨(pre ++ (a, o') :: post) ++ X, ?_, fun h' F' N' => ?_⟩⟩
  · rw [h3, List.append_assoc, List.append_assoc, List.cons_append, List.cons_append]
    clear h3 h4 nd
    induction pre with
    | nil => exact .head d2
    | cons p r ih => exact .tail (d1 p (.head _)) (ih fun q hq => d1 q (.tail _ hq))
  · refine ⟨pre ++ (a, o') :: post, X, ⟨S.len, F', N', ?_, h4 ao' o' ho', S.X⟩⟩
    have nd := S.nd
    rw [h3] at nd
    simpa using nd
theorem StW.keeps (S : StW G h₀ L m Y ρ σ h news X) (k : ∀ b o, h.get? b = some o → h'.get? b = some o) : StW G h₀ L m Y ρ σ h' news X := by
  obtain ⟨oL, es, ep, hL, r⟩ := S.F.ns
  exact ⟨S.len, ⟨⟨oL, es, ep, k _ _ hL, r⟩, fun b o e => k b o (S.F.keep b o e), S.F.above⟩, fun p hp => ⟨k _ _ (S.N p hp).1, (S.N p hp).2⟩, S.nd, S.R, S.X⟩
theorem StW.drop (S : StW G h₀ L m Y ρ σ h news X) (old : Nat) (f : Nat → Bool) : St G h₀ L m Y ρ ⟨keepNew old f σ.led, σ.nxt⟩ h := by
  obtain ⟨nw, hs, R⟩ := S.R.dropNew old f
  have hs' : (nw ++ X).Sublist (news ++ X) := hs.append (List.Sublist.refl _)
  exact ⟨nw, X, ⟨S.len, S.F, fun p hp => S.N p (hs'.subset hp), (hs'.map _).nodup S.nd, R, S.X⟩⟩
theorem drop_eq (old : Nat) (v : AV) (σ : Sig) : ∃ f, Mine.drop old v σ = ⟨keepNew old f σ.led, σ.nxt⟩ := by
  unfold Mine.drop
  split
  · rename_i i
    cases Nat.blt i old with
    | true => exact ⟨_, rfl⟩
    | false => exact ⟨_, rfl⟩
  · exact ⟨_, rfl⟩
theorem St.drop (S : St G h₀ L m Y ρ σ h) (old : Nat) (v : AV) : St G h₀ L m Y ρ (Mine.drop old v σ) h := by
  obtain ⟨news, X, S⟩ := S
  obtain ⟨f, e⟩ := drop_eq old v σ
  rw [e]
  exact S.drop old f
end
end Mine
end

section
set_option maxRecDepth 100000
namespace Mine
open PySem PySem.W PyProof.Rows PySem.Calls
section
variable {prog : Program} {w : World} {A : Around} {E : Value → Shared → Prop} {s : Shared} {G : Mn} {C : Addr} {fr : List Env} {h₀ : Heap} {L : Addr} {m : PySem.Str → Option Value} {Y : List (Addr × Obj)}
  {ρ : List Addr} {σ : Sig} {Q : Value → Shared → Prop} {a b : AV} {x y : Value}
theorem PostO.val {α β : Type} {RR : List Addr → α → β → Prop} {v : α} {z : β} {Q : β → Shared → Prop} (h : PostO G C fr h₀ L m Y RR ρ (.ok v σ) Q E s) (S : St G h₀ L m Y ρ σ s.heap) (r : RR ρ v z) (tk : Nat) :
    Q z { s with toks := tk } := h ρ z s.heap tk (List.prefix_refl _) S r
theorem PostO.val' {α β : Type} {RR : List Addr → α → β → Prop} {v : α} {z : β} {Q : β → Shared → Prop} (h : PostO G C fr h₀ L m Y RR ρ (.ok v σ) Q E s) (S : St G h₀ L m Y ρ σ s.heap) (r : RR ρ v z) : Q z s := h.val S r s.toks
theorem small_le {n : Nat} (h : small n = true) : n ≤ 1000 := Nat.le_of_ble_eq_true h
theorem sz1000 {n : Nat} (h : n ≤ 1000) : n ≤ sizeLine := by rw [sizeLine_eq]; omega
theorem bif_true {α : Type} {c : Bool} {x y : α} (h : c = true) : (bif c then x else y) = x := by rw [h]; rfl
theorem intBits_small {k : Int} (h0 : 0 ≤ k) (h1 : k ≤ 1000) : Builtin.Int.intBits k ≤ 64 := intBits_le_64 (by omega) (by omega)
theorem VRs.len {vs : List AV} {xs : List Value} (h : VRs G ρ vs xs) : xs.length = vs.length := (All2.length h).symm
/-- a made tuple -/
theorem tup_sound (S : St G h₀ L m Y ρ σ s.heap) {vs : List AV} {xs : List Value} (hv : VRs G ρ vs xs) (hz : vs.length ≤ 1000)
    (h : PostO G C fr h₀ L m Y (VR G) ρ (.ok (.ref (Mine.alloc σ (.tup vs)).1) (Mine.alloc σ (.tup vs)).2) Q E s) : wpAny (model prog w) A (newTuple xs) Q E s := by
  obtain ⟨news, X, S⟩ := S
  refine newTuple_N S.F S.N (fun h' F' N' => ?_) (by rw [hv.len]; exact sz1000 hz)
  refine h (ρ ++ [s.heap.objs.size]) _ h' s.toks (pre_snoc _ _) (S.alloc' (Nat.le_refl _) (.tup 0 (VRs.mono (pre_snoc _ _) hv)) F' N') (.ref ?_)
  show (ρ ++ [s.heap.objs.size])[σ.nxt]? = _
  rw [← S.len]; simp
theorem lst_sound (S : St G h₀ L m Y ρ σ s.heap) {vs : List AV} {xs : List Value} (hv : VRs G ρ vs xs) (hz : vs.length ≤ 1000)
    (h : PostO G C fr h₀ L m Y (VR G) ρ (.ok (.ref (Mine.alloc σ (.lst vs)).1) (Mine.alloc σ (.lst vs)).2) Q E s) : wpAny (model prog w) A (newList xs) Q E s := by
  obtain ⟨news, X, S⟩ := S
  refine newList_N S.F S.N (fun h' F' N' => ?_) (by rw [hv.len]; exact sz1000 hz)
  refine h (ρ ++ [s.heap.objs.size]) _ h' s.toks (pre_snoc _ _) (S.alloc' (Nat.le_refl _) (.lst 0 (VRs.mono (pre_snoc _ _) hv)) F' N') (.ref ?_)
  show (ρ ++ [s.heap.objs.size])[σ.nxt]? = _
  rw [← S.len]; simp
/-- what stands at a place -/
theorem at_tup {h : Heap} (S : St G h₀ L m Y ρ σ h) {i : Nat} {vs : List AV} {p : Addr} (e : look σ i = some (.tup vs)) (hp : ρ[i]? = some p) : ∃ xs : List Value, IsTup h p xs.toArray ∧ VRs G ρ vs xs ∧ ∃ n, h.get? p = some { cls := .type "tuple", data := .seq xs.toArray n } := by
  obtain ⟨news, X, S⟩ := S
  obtain ⟨q, o, h1, h2, h3⟩ := S.at e
  rw [hp] at h1
  cases h1
  cases h3 with
  | @tup _ xs n hv => exact ⟨xs, ⟨_, h2, rfl, n, rfl⟩, hv, n, h2⟩
theorem at_lst {h : Heap} (S : St G h₀ L m Y ρ σ h) {i : Nat} {vs : List AV} {p : Addr} (e : look σ i = some (.lst vs)) (hp : ρ[i]? = some p) : ∃ xs : List Value, h.IsList p xs.toArray ∧ VRs G ρ vs xs ∧ ∃ n, h.get? p = some (listOf xs.toArray n) := by
  obtain ⟨news, X, S⟩ := S
  obtain ⟨q, o, h1, h2, h3⟩ := S.at e
  rw [hp] at h1
  cases h1
  cases h3 with
  | @lst _ xs n hv => exact ⟨xs, ⟨_, h2, rfl, n, rfl⟩, hv, n, h2⟩
theorem and3 {p q : Bool} (h : (p && q) = true) : p = true ∧ q = true := Bool.and_eq_true_iff.mp h
theorem binv_sound (S : St G h₀ L m Y ρ σ s.heap) {op : Operator} (ha : VR G ρ a x) (hb : VR G ρ b y) (h : PostO G C fr h₀ L m Y (VR G) ρ (binv σ op a b) Q E s) :
    wpAny (model prog w) A (binaryOp op x y) Q E s := by
  unfold binv at h
  split at h
  · cases ha; cases hb
    exact add_int (h.val S (.int _ _) _)
  · rename_i p q
    cases ha; cases hb
    cases z : small (p.length + q.length) with
    | false => rw [z] at h; exact h.elim
    | true =>
      rw [z] at h
      refine add_str (fun t' tk => ?_) (sz1000 (by have := small_le z; simpa [Str.length] using this))
      have := h.val (z := .str ((⟨p.toArray⟩ : PySem.Str) ++ ⟨q.toArray⟩) t') S (by
        rw [show ((⟨p.toArray⟩ : PySem.Str) ++ ⟨q.toArray⟩) = ⟨(p ++ q).toArray⟩ from Str.ext' (by rw [Str.cps_append]; simp)]
        exact .str _ _) tk
      exact this
  · cases ha with | ref e1 => cases hb with | ref e2 =>
    split at h
    · rename_i xs ys l1 l2
      cases z : small (xs.length + ys.length) with
      | false => rw [z] at h; exact h.elim
      | true =>
        rw [z] at h
        obtain ⟨us, i1, v1, _⟩ := at_lst S l1 e1
        obtain ⟨ws, i2, v2, _⟩ := at_lst S l2 e2
        obtain ⟨news, X, S⟩ := S
        refine add_arrays S.F S.N i1 i2 (fun h' F' N' => ?_) (sz1000 (by have := small_le z; simpa [v1.len, v2.len] using this))
        refine h (ρ ++ [s.heap.objs.size]) _ h' s.toks (pre_snoc _ _) (S.alloc' (Nat.le_refl _) (.lst 0 (VRs.mono (pre_snoc _ _) (All2.append v1 v2))) F' (by simpa using N')) (.ref ?_)
        show (ρ ++ [s.heap.objs.size])[σ.nxt]? = _
        rw [← S.len]; simp
    · exact h.elim
  · cases ha; cases hb
    exact sub_int (h.val S (.int _ _) _)
  · rename_i p q
    cases ha; cases hb
    cases z : (decide (0 ≤ p) && decide (p ≤ 1000)) with
    | false => rw [z] at h; exact h.elim
    | true =>
      rw [z] at h
      obtain ⟨z1, z2⟩ := and3 z
      exact mul_int (h.val S (.int _ _) _) (.of_left (intBits_small (of_decide_eq_true z1) (of_decide_eq_true z2)))
  · rename_i n q
    cases hb; cases ha with | byt p t =>
    cases z : (Nat.ble 1 p.size && Nat.ble p.size 16 && decide (0 ≤ q) && decide (q ≤ 1000)) with
    | false => rw [z] at h; exact h.elim
    | true =>
      rw [z] at h
      obtain ⟨z, z4⟩ := and3 z
      obtain ⟨z, z3⟩ := and3 z
      obtain ⟨z1, z2⟩ := and3 z
      have z1 := Nat.le_of_ble_eq_true z1
      have z2 := Nat.le_of_ble_eq_true z2
      have z3 := of_decide_eq_true z3
      have z4 := of_decide_eq_true z4
      have e : p = p.toList.toArray := by simp
      have hl : p.toList.length = p.size := by simp
      rw [e]
      refine bytes_mul_any (b := p.toList) (n := q) (fun e => by rw [e] at hl; simp at hl; omega) (by omega) (by omega) (by omega) (fun t' k => ?_)
      have hs : (((List.replicate q.toNat p.toList).flatten).toArray).size = p.size * q.toNat := by simp [Nat.mul_comm]
      have := h.val (z := .bytes ((List.replicate q.toNat p.toList).flatten).toArray t') S (by rw [← hs]; exact .byt _ _) k
      exact this
  · rename_i p q
    cases ha; cases hb
    cases z : (decide (0 < q) && decide (q ≤ 1000)) with
    | false => rw [z] at h; exact h.elim
    | true =>
      rw [z] at h
      obtain ⟨z1, z2⟩ := and3 z
      have z1 := of_decide_eq_true z1
      have z2 := of_decide_eq_true z2
      exact floordiv_int (by omega) (h.val S (.int _ _) _) (.inl (PyProof.noPylong_small (by omega)))
  · rename_i p q
    cases ha; cases hb
    cases z : decide (0 < q) with
    | false => rw [z] at h; exact h.elim
    | true =>
      rw [z] at h
      have z1 := of_decide_eq_true z
      exact mod_int' (by omega) (h.val S (.int _ _) _)
  · rename_i p q
    cases ha; cases hb
    cases z : (decide (0 ≤ q) && decide (q ≤ 30) && decide (p = 10)) with
    | false => rw [z] at h; exact h.elim
    | true =>
      rw [z] at h
      obtain ⟨z, z3⟩ := and3 z
      obtain ⟨z1, z2⟩ := and3 z
      have z1 := of_decide_eq_true z1
      have z2 := of_decide_eq_true z2
      have z3 := of_decide_eq_true z3
      subst z3
      refine pow_int z1 ?_ (h.val S (.int _ _) _)
      have : Builtin.Int.intBits 10 ≤ 64 := intBits_small (by omega) (by omega)
      have h3 : ((Builtin.Int.intBits 10 : Nat) : Int) * q ≤ 64 * 30 := Int.mul_le_mul (by omega) z2 z1 (by omega)
      omega
  · exact h.elim
end
end Mine
end

section
set_option maxRecDepth 100000
namespace Mine
open PySem PySem.W PyProof.Rows PySem.Calls PySem.SeqAt
noncomputable def toD (σ : Sig) : Nat → AV → PyData
  | 0, _ => .none
  | n + 1, v => match v with
    | .bool b => .bool b
    | .int k => .int k
    | .str s => .str ⟨s.toArray⟩
    | .ref i => match look σ i with
      | some (.tup xs) => .tuple (xs.map (toD σ n))
      | some (.lst xs) => .list (xs.map (toD σ n))
      | _ => .none
    | _ => .none
section
variable {prog : Program} {w : World} {A : Around} {E : Value → Shared → Prop} {s : Shared} {G : Mn} {C : Addr} {fr : List Env} {h₀ : Heap} {L : Addr} {m : PySem.Str → Option Value} {Y : List (Addr × Obj)}
  {ρ : List Addr} {σ : Sig} {Q : Value → Shared → Prop} {a b : AV} {x y : Value} {h : Heap}
theorem okc_all : ∀ {s : List Nat}, okc s = true → s.all (· < 0x110000) = true
  | [], _ => rfl
  | c :: r, h => by
    unfold okc at h
    cases z : Nat.blt c 1114112 with
    | false => rw [z] at h; cases h
    | true =>
      rw [z] at h
      rw [List.all_cons, okc_all h, Bool.and_true]
      exact decide_eq_true (Nat.le_of_ble_eq_true z)
theorem isD_all (n : Nat) (ih : ∀ v x, isD σ n v = true → VR G ρ v x → ∃ as, Reads h x (toD σ n v) as ∧ (toD σ n v).canLay0 = true ∧ (toD σ n v).depth ≤ n) :
    ∀ {vs : List AV} {xs : List Value}, vs.all (isD σ n) = true → VRs G ρ vs xs →
      ∃ as, ReadsAll h xs (vs.map (toD σ n)) as ∧ PyData.canLayAll0 (vs.map (toD σ n)) = true ∧ PyData.depthAll (vs.map (toD σ n)) ≤ n := by
  intro vs xs hd r
  induction r with
  | nil => exact ⟨_, .nil, rfl, Nat.zero_le _⟩
  | @cons v x vs xs rv _ hi =>
    rw [List.all_cons] at hd
    obtain ⟨d1, d2⟩ := and3 hd
    obtain ⟨as, r1, c1, p1⟩ := ih v x d1 rv
    obtain ⟨bs, r2, c2, p2⟩ := hi d2
    refine ⟨_, .cons r1 r2, ?_, ?_⟩
    · rw [List.map_cons, PyData.canLayAll0, c1, c2]; rfl
    · rw [List.map_cons, PyData.depthAll]; omega
theorem isD_reads (S : St G h₀ L m Y ρ σ h) : ∀ (n : Nat) (v : AV) (x : Value), isD σ n v = true → VR G ρ v x → ∃ as, Reads h x (toD σ n v) as ∧ (toD σ n v).canLay0 = true ∧ (toD σ n v).depth ≤ n := by
  intro n
  induction n with
  | zero => intro v x h; cases h
  | succ n ih =>
    intro v x hd r
    cases r with
    | none => exact ⟨_, .none, by simp [toD, PyData.canLay0], by simp [toD, PyData.depth]⟩
    | bool b => exact ⟨_, .bool b, by simp [toD, PyData.canLay0], by simp [toD, PyData.depth]⟩
    | int k t => exact ⟨_, .int k t, by simp [toD, PyData.canLay0], by simp [toD, PyData.depth]⟩
    | str s t =>
      refine ⟨_, .str _ t, ?_, by simp [toD, PyData.depth]⟩
      have := okc_all hd
      simp [toD, PyData.canLay0, PyData.strOk] at this ⊢
      exact this
    | @ref i p hp =>
      cases z : look σ i with
      | none => simp [isD, z] at hd
      | some o =>
        cases o with
        | tup vs =>
          obtain ⟨xs, _, hv, k, hg⟩ := at_tup S z hp
          obtain ⟨as, r1, c1, p1⟩ := isD_all n ih (vs := vs) (by simpa [isD, z] using hd) hv
          refine ⟨as, ?_, ?_, ?_⟩
          · simp only [toD, z]
            exact reads_tuple_at hg rfl rfl (by simpa using r1)
          · simpa [toD, z, PyData.canLay0] using c1
          · simpa [toD, z, PyData.depth] using p1
        | lst vs =>
          obtain ⟨xs, _, hv, k, hg⟩ := at_lst S z hp
          obtain ⟨as, r1, c1, p1⟩ := isD_all n ih (vs := vs) (by simpa [isD, z] using hd) hv
          refine ⟨p :: as, ?_, ?_, ?_⟩
          · simp only [toD, z]
            exact reads_list_at hg rfl rfl (by simpa [W.listOf] using r1)
          · simpa [toD, z, PyData.canLay0] using c1
          · simpa [toD, z, PyData.depth] using p1
        | inst c d => simp [isD, z] at hd
        | dct es => simp [isD, z] at hd
        | lit l j => simp [isD, z] at hd
    | byt a t => cases hd
    | fn k => cases hd
    | cls k => cases hd
    | bi k => cases hd
    | sym k t => cases hd
    | sstr x t e => cases hd
theorem seq_beq : ∀ (p q : List Nat), seq p q = (p == q)
  | [], [] => rfl
  | [], _ :: _ => rfl
  | _ :: _, [] => rfl
  | x :: r, y :: t => by
    show (bif Nat.beq x y then seq r t else false) = _
    rw [seq_beq r t, List.cons_beq_cons]
    cases z : Nat.beq x y with
    | true => rw [Nat.eq_of_beq_eq_true z]; simp
    | false => have := Nat.ne_of_beq_eq_false z; simp [this]
theorem str_beq (p q : List Nat) : ((⟨p.toArray⟩ : PySem.Str) == ⟨q.toArray⟩) = (p == q) := by
  rw [Bool.eq_iff_iff, beq_iff_eq, beq_iff_eq]
  constructor
  · intro h; injection h with h; simpa using h
  · rintro rfl; rfl
theorem eqbs_eq (n : Nat) (ih : ∀ a b, isD σ n a = true → isD σ n b = true → eqb σ n a b = PyData.eqv (toD σ n a) (toD σ n b)) :
    ∀ (xs ys : List AV), xs.all (isD σ n) = true → ys.all (isD σ n) = true → eqbs (eqb σ n) xs ys = PyData.eqvAll (xs.map (toD σ n)) (ys.map (toD σ n))
  | [], [], _, _ => by simp [eqbs, PyData.eqvAll]
  | [], _ :: _, _, _ => by simp [eqbs, PyData.eqvAll]
  | _ :: _, [], _, _ => by simp [eqbs, PyData.eqvAll]
  | x :: r, y :: t, h1, h2 => by
    rw [List.all_cons] at h1 h2
    obtain ⟨a1, a2⟩ := and3 h1
    obtain ⟨b1, b2⟩ := and3 h2
    rw [List.map_cons, List.map_cons, PyData.eqvAll]
    show (bif eqb σ n x y then eqbs (eqb σ n) r t else false) = _
    rw [ih x y a1 b1, eqbs_eq n ih r t a2 b2]
    cases PyData.eqv (toD σ n x) (toD σ n y) <;> rfl
theorem eqb_eq : ∀ (n : Nat) (a b : AV), isD σ n a = true → isD σ n b = true → eqb σ n a b = PyData.eqv (toD σ n a) (toD σ n b) := by
  intro n
  induction n with
  | zero => intro a b h; cases h
  | succ n ih =>
    intro a b ha hb
    have hr : ∀ i, isD σ (n + 1) (.ref i) = true → (∃ xs, look σ i = some (.tup xs) ∧ xs.all (isD σ n) = true) ∨ (∃ xs, look σ i = some (.lst xs) ∧ xs.all (isD σ n) = true) := by
      intro i hi
      cases z : look σ i with
      | none => simp [isD, z] at hi
      | some o =>
        cases o with
        | tup vs => exact .inl ⟨vs, rfl, by simpa [isD, z] using hi⟩
        | lst vs => exact .inr ⟨vs, rfl, by simpa [isD, z] using hi⟩
        | inst c d => simp [isD, z] at hi
        | dct es => simp [isD, z] at hi
        | lit l j => simp [isD, z] at hi
    cases a with
    | none => cases b with
      | ref j => rcases hr j hb with ⟨ys, z, _⟩ | ⟨ys, z, _⟩ <;> simp [eqb, toD, PyData.eqv, z]
      | none => simp [eqb, toD, PyData.eqv]
      | bool q => simp [eqb, toD, PyData.eqv]
      | int q => simp [eqb, toD, PyData.eqv]
      | str q => simp [eqb, toD, PyData.eqv]
      | _ => cases hb
    | bool p => cases b with
      | ref j => rcases hr j hb with ⟨ys, z, _⟩ | ⟨ys, z, _⟩ <;> simp [eqb, toD, PyData.eqv, z]
      | none => simp [eqb, toD, PyData.eqv]
      | bool q => simp [eqb, toD, PyData.eqv]
      | int q => simp [eqb, toD, PyData.eqv]
      | str q => simp [eqb, toD, PyData.eqv]
      | _ => cases hb
    | int p => cases b with
      | ref j => rcases hr j hb with ⟨ys, z, _⟩ | ⟨ys, z, _⟩ <;> simp [eqb, toD, PyData.eqv, z]
      | none => simp [eqb, toD, PyData.eqv]
      | bool q => simp [eqb, toD, PyData.eqv]
      | int q => simp [eqb, toD, PyData.eqv]
      | str q => simp [eqb, toD, PyData.eqv]
      | _ => cases hb
    | str p => cases b with
      | ref j => rcases hr j hb with ⟨ys, z, _⟩ | ⟨ys, z, _⟩ <;> simp [eqb, toD, PyData.eqv, z]
      | none => simp [eqb, toD, PyData.eqv]
      | bool q => simp [eqb, toD, PyData.eqv]
      | int q => simp [eqb, toD, PyData.eqv]
      | str q =>
        simp only [toD, PyData.eqv]
        rw [str_beq, ← seq_beq]
        rfl
      | _ => cases hb
    | ref i => cases b with
      | ref j =>
        rcases hr i ha with ⟨xs, z, hx⟩ | ⟨xs, z, hx⟩ <;> rcases hr j hb with ⟨ys, u, hy⟩ | ⟨ys, u, hy⟩ <;> simp [eqb, toD, PyData.eqv, z, u]
        · exact eqbs_eq n ih xs ys hx hy
        · exact eqbs_eq n ih xs ys hx hy
      | none => rcases hr i ha with ⟨ys, z, _⟩ | ⟨ys, z, _⟩ <;> simp [eqb, toD, PyData.eqv, z]
      | bool q => rcases hr i ha with ⟨ys, z, _⟩ | ⟨ys, z, _⟩ <;> simp [eqb, toD, PyData.eqv, z]
      | int q => rcases hr i ha with ⟨ys, z, _⟩ | ⟨ys, z, _⟩ <;> simp [eqb, toD, PyData.eqv, z]
      | str q => rcases hr i ha with ⟨ys, z, _⟩ | ⟨ys, z, _⟩ <;> simp [eqb, toD, PyData.eqv, z]
      | _ => cases hb
    | _ => cases ha
theorem eqv_sound (S : St G h₀ L m Y ρ σ s.heap) (ha : VR G ρ a x) (hb : VR G ρ b y) (hu : A.units + 64 < cLine) {r : Bool} (h : eqv σ a b = some r) :
    (Q (.bool r) s → wpAny (model prog w) A (compareOp .Eq x y) Q E s) ∧ (Q (.bool (!r)) s → wpAny (model prog w) A (compareOp .NotEq x y) Q E s) := by
  unfold eqv at h
  cases z : (isD σ 12 a && isD σ 12 b) with
  | false => rw [z] at h; cases h
  | true =>
    rw [z] at h
    obtain ⟨z1, z2⟩ := and3 z
    obtain ⟨as, r1, c1, p1⟩ := isD_reads S 12 a x z1 ha
    obtain ⟨bs, r2, c2, p2⟩ := isD_reads S 12 b y z2 hb
    have hs1 : shaped (toD σ 12 a) = true := by unfold shaped; rw [c1, Bool.true_and]; exact decide_eq_true (by omega)
    have hs2 : shaped (toD σ 12 b) = true := by unfold shaped; rw [c2, Bool.true_and]; exact decide_eq_true (by omega)
    have e : PyData.eqv (toD σ 12 a) (toD σ 12 b) = r := by
      rw [← eqb_eq 12 a b z1 z2]
      exact Option.some.inj h
    exact ⟨fun q => eq_dataH r1 r2 hs1 hs2 hu (by rw [e]; exact q), fun q => ne_dataH r1 r2 hs1 hs2 hu (by rw [e]; exact q)⟩
theorem nelem_iff : ∀ (t : List Nat) (c : Nat), nelem t c = decide (c ∈ t)
  | [], c => rfl
  | x :: r, c => by
    show (bif Nat.beq x c then true else nelem r c) = _
    rw [nelem_iff r c]
    cases z : Nat.beq x c with
    | true => have := Nat.eq_of_beq_eq_true z; subst this; simp
    | false =>
      have := Nat.ne_of_beq_eq_false z
      have t2 : ¬ c = x := fun e => this e.symm
      simp [t2]
theorem any_eqb (n : Nat) {b : AV} (hb : isD σ n b = true) : ∀ (xs : List AV), xs.all (isD σ n) = true → (xs.any fun y => eqb σ n y b) = ((xs.map (toD σ n)).any fun y => PyData.eqv y (toD σ n b))
  | [], _ => rfl
  | x :: r, h => by
    rw [List.all_cons] at h
    obtain ⟨h1, h2⟩ := and3 h
    rw [List.any_cons, List.map_cons, List.any_cons, any_eqb n hb r h2, eqb_eq n x b h1 hb]
theorem isD_succ : ∀ (n : Nat) (v : AV), isD σ n v = true → isD σ (n + 1) v = true := by
  intro n
  induction n with
  | zero => intro v h; cases h
  | succ n ih =>
    intro v h
    cases v with
    | ref i =>
      cases z : look σ i with
      | none => simp [isD, z] at h
      | some o =>
        cases o with
        | tup vs =>
          have hd : ∀ x ∈ vs, isD σ n x = true := by simpa [isD, z] using h
          have : ∀ x ∈ vs, isD σ (n + 1) x = true := fun x hx => ih x (hd x hx)
          rw [isD]; simpa [z] using this
        | lst vs =>
          have hd : ∀ x ∈ vs, isD σ n x = true := by simpa [isD, z] using h
          have : ∀ x ∈ vs, isD σ (n + 1) x = true := fun x hx => ih x (hd x hx)
          rw [isD]; simpa [z] using this
        | inst c d => simp [isD, z] at h
        | dct es => simp [isD, z] at h
        | lit l j => simp [isD, z] at h
    | str s => exact h
    | none => rfl
    | bool b => rfl
    | int k => rfl
    | _ => cases h
theorem inv_data (S : St G h₀ L m Y ρ σ s.heap) (ha : VR G ρ a x) (hb : VR G ρ b y) (hu : A.units + 64 < cLine) {r : Bool} (z : (isD σ 12 a && isD σ 12 b) = true) (h : (items σ b).map (fun xs => xs.any fun y => eqb σ 12 y a) = some r) :
    (Q (.bool r) s → wpAny (model prog w) A (compareOp .In x y) Q E s) ∧ (Q (.bool (!r)) s → wpAny (model prog w) A (compareOp .NotIn x y) Q E s) := by
  obtain ⟨z1, z2⟩ := and3 z
  obtain ⟨as, r1, c1, p1⟩ := isD_reads S 12 a x z1 ha
  cases hb with
  | @ref i p hp =>
    cases u : look σ i with
    | none => simp [items, u] at h
    | some o =>
      cases o with
      | tup vs =>
        obtain ⟨xs, _, hv, k, hg⟩ := at_tup S u hp
        have hd : ∀ x ∈ vs, isD σ 11 x = true := by simpa [isD, u] using z2
        have hd : vs.all (isD σ 12) = true := List.all_eq_true.mpr fun x hx => isD_succ 11 x (hd x hx)
        obtain ⟨bs, r2, c2, p2⟩ := isD_all 12 (isD_reads S 12) hd hv
        have e : r = ((vs.map (toD σ 12)).any fun y => PyData.eqv y (toD σ 12 a)) := by
          rw [← any_eqb 12 z1 vs hd]
          simpa [items, u] using h.symm
        have rr : Reads s.heap (.ref p) (.tuple (vs.map (toD σ 12))) bs := reads_tuple_at hg rfl rfl (by simpa using r2)
        exact ⟨fun q => in_tuple_reads rr r1 c2 c1 (by omega) (by rw [← e]; exact q), fun q => notIn_tuple_reads rr r1 c2 c1 (by omega) (by rw [← e]; exact q)⟩
      | lst vs =>
        obtain ⟨xs, _, hv, k, hg⟩ := at_lst S u hp
        have hd : ∀ x ∈ vs, isD σ 11 x = true := by simpa [isD, u] using z2
        have hd : vs.all (isD σ 12) = true := List.all_eq_true.mpr fun x hx => isD_succ 11 x (hd x hx)
        obtain ⟨bs, r2, c2, p2⟩ := isD_all 12 (isD_reads S 12) hd hv
        have e : r = ((vs.map (toD σ 12)).any fun y => PyData.eqv y (toD σ 12 a)) := by
          rw [← any_eqb 12 z1 vs hd]
          simpa [items, u] using h.symm
        have rr : Reads s.heap (.ref p) (.list (vs.map (toD σ 12))) (p :: bs) := reads_list_at hg rfl rfl (by simpa [W.listOf] using r2)
        exact ⟨fun q => in_list_reads rr r1 c2 c1 (by omega) (by rw [← e]; exact q), fun q => notIn_list_reads rr r1 c2 c1 (by omega) (by rw [← e]; exact q)⟩
      | inst c d => simp [items, u] at h
      | dct es => simp [items, u] at h
      | lit l j => simp [items, u] at h
  | _ => cases h
theorem inv_ne (hn : ∀ t, b ≠ .str t) : inv σ a b = bif isD σ 12 a && isD σ 12 b then (items σ b).map (fun xs => xs.any fun y => eqb σ 12 y a) else none := by
  cases b <;> first | rfl | exact absurd rfl (hn _)
theorem inv_sound (S : St G h₀ L m Y ρ σ s.heap) (ha : VR G ρ a x) (hb : VR G ρ b y) (hu : A.units + 64 < cLine) {r : Bool} (h : inv σ a b = some r) :
    (Q (.bool r) s → wpAny (model prog w) A (compareOp .In x y) Q E s) ∧ (Q (.bool (!r)) s → wpAny (model prog w) A (compareOp .NotIn x y) Q E s) := by
  by_cases hs : ∃ t, b = .str t
  · obtain ⟨t, rfl⟩ := hs
    have h : inStr a t = some r := h
    unfold inStr at h
    split at h
    · rename_i _ _ c _
      cases ha; cases hb
      have e : r = nelem t c := (Option.some.inj h).symm
      have f : (!(Builtin.Str.occurrences ⟨t.toArray⟩ ⟨#[c]⟩ 0 (⟨t.toArray⟩ : PySem.Str).length 1).isEmpty) = r := by rw [StrLaws.found_one, e, nelem_iff]
      exact ⟨fun q => SB.contains (by show Q (.bool (!(Builtin.Str.occurrences _ _ 0 _ 1).isEmpty)) s; rw [show [c].toArray = #[c] from rfl, f]; exact q),
        fun q => SB.notContains (by show Q (.bool (!(!(Builtin.Str.occurrences _ _ 0 _ 1).isEmpty))) s; rw [show [c].toArray = #[c] from rfl, f]; exact q)⟩
    · cases h
  · rw [inv_ne fun t e => hs ⟨t, e⟩] at h
    cases z : (isD σ 12 a && isD σ 12 b) with
    | false => rw [z] at h; cases h
    | true => rw [z] at h; exact inv_data S ha hb hu z h
theorem isN_eq (ha : VR G ρ a x) (hb : VR G ρ b y) {r : Bool} (h : isN a b = some r) : y = .none ∧ (x == .none) = r := by
  unfold isN at h
  split at h
  · cases ha; cases hb; exact ⟨rfl, Option.some.inj h⟩
  · cases ha; cases hb; exact ⟨rfl, Option.some.inj h⟩
  · cases h
theorem cmpv_sound (S : St G h₀ L m Y ρ σ s.heap) {op : CmpOp} (ha : VR G ρ a x) (hb : VR G ρ b y) (hu : A.units + 64 < cLine) {r : Bool} (h : cmpv σ op a b = some r) (q : Q (.bool r) s) :
    wpAny (model prog w) A (compareOp op x y) Q E s := by
  cases op with
  | Eq => exact (eqv_sound S ha hb hu h).1 q
  | NotEq =>
    have h : (bif longer σ a b then some true else (eqv σ a b).map (!·)) = some r := h
    cases z : longer σ a b with
    | false =>
      rw [z] at h
      have h : (eqv σ a b).map (!·) = some r := h
      cases e : eqv σ a b with
      | none => rw [e] at h; cases h
      | some c =>
        rw [e] at h
        refine (eqv_sound S ha hb hu e).2 ?_
        rw [show (!c) = r from Option.some.inj h]; exact q
    | true =>
      rw [z] at h
      have h : r = true := (Option.some.inj h).symm
      subst h
      unfold longer at z
      split at z
      · split at z
        · rename_i i j _ _ xs ys u1 u2
          cases ha with | ref e1 => cases hb with | ref e2 =>
          obtain ⟨us, i1, v1, _⟩ := at_lst S u1 e1
          obtain ⟨ws, i2, v2, _⟩ := at_lst S u2 e2
          refine RcNeAt.lists_lengths i1 i2 ?_ (by omega) prog w E Q q
          have : xs.length ≠ ys.length := Nat.ne_of_beq_eq_false (by simpa using z)
          simp [v1.len, v2.len, this]
        · cases z
      · cases z
  | Lt =>
    have h : ltv a b = some r := h
    unfold ltv at h
    split at h
    · cases ha; cases hb
      exact lt_int (by rw [Option.some.inj h]; exact q)
    · cases h
  | LtE =>
    have h : lev a b = some r := h
    unfold lev at h
    split at h
    · cases ha; cases hb
      exact le_int (by rw [Option.some.inj h]; exact q)
    · rename_i p q' _
      cases ha; cases hb
      refine P.le_str ?_
      have e : (!decide ((⟨[q'].toArray⟩ : PySem.Str).cps.toList < (⟨[p].toArray⟩ : PySem.Str).cps.toList)) = r := by
        rw [← Option.some.inj h]
        show (!decide ([q'] < [p])) = _
        have hlt : ([q'] < [p]) ↔ q' < p := by
          constructor
          · intro hh
            cases hh with
            | cons hh => cases hh
            | rel hh => exact hh
          · exact fun hh => List.Lex.rel hh
        cases z : Nat.ble p q' with
        | true =>
          have := Nat.le_of_ble_eq_true z
          have : ¬ ([q'] < [p]) := fun hh => Nat.not_le.mpr (hlt.mp hh) this
          simp only [this, decide_false, Bool.not_false]
        | false =>
          have : q' < p := Nat.lt_of_not_le fun hh => by rw [Nat.ble_eq_true_of_le hh] at z; cases z
          have := hlt.mpr this
          simp only [this, decide_true, Bool.not_true]
      rw [e]; exact q
    · cases h
  | Gt =>
    have h : gtv a b = some r := h
    unfold gtv at h
    split at h
    · cases ha; cases hb
      exact gt_int (by rw [Option.some.inj h]; exact q)
    · cases h
  | GtE =>
    have h : gev a b = some r := h
    unfold gev at h
    split at h
    · cases ha; cases hb
      exact ge_int (by rw [Option.some.inj h]; exact q)
    · cases h
  | In => exact (inv_sound S ha hb hu h).1 q
  | NotIn =>
    have h : (inv σ a b).map (!·) = some r := h
    cases e : inv σ a b with
    | none => rw [e] at h; cases h
    | some c =>
      rw [e] at h
      refine (inv_sound S ha hb hu e).2 ?_
      rw [show (!c) = r from Option.some.inj h]; exact q
  | Is =>
    obtain ⟨rfl, e⟩ := isN_eq ha hb h
    exact is_none (by rw [e]; exact q)
  | IsNot =>
    have h : (isN a b).map (!·) = some r := h
    cases e : isN a b with
    | none => rw [e] at h; cases h
    | some c =>
      rw [e] at h
      obtain ⟨rfl, e'⟩ := isN_eq ha hb e
      refine isNot_none ?_
      rw [e', show (!c) = r from Option.some.inj h]; exact q
end
end Mine
end

section
set_option maxRecDepth 100000
namespace Mine
open PySem PySem.W PyProof.Rows PySem.Calls PySem.SeqAt
section
variable {prog : Program} {w : World} {A : Around} {E : Value → Shared → Prop} {s : Shared} {G : Mn} {C : Addr} {fr : List Env} {h₀ : Heap} {L : Addr} {m : PySem.Str → Option Value} {Y : List (Addr × Obj)}
  {ρ : List Addr} {σ : Sig} {Q : Value → Shared → Prop} {a b : AV} {x y : Value} {h : Heap}
theorem noSlice (nm : Nat → PySem.Str) (e : PE) (o i : Value) : subscripted (toE nm e) false o i = operate [o, i] (getItem o i) := by
  cases e <;> rfl
theorem sub_seq {T id : String} {value : Expr} {e : PE} {k : Int} {u : Tok} {p : Addr} (hT : s.TypeIs (.ref p) T) (hl : typeLookup (.type T) "__getitem__" = pure (some (.builtin id)))
    (hg : wpAny (model prog w) A (getItem (.ref p) (.int k u)) Q E s) : wpAny (model prog w) A (subscriptTail value (toE G.nm e) (.ref p) (.int k u)) Q E s :=
  tail_any hT hl hg (noSlice _ _ _ _)
theorem getv_get {α β : Type} {R : α → β → Prop} {vs : List α} {xs : List β} (h : All2 R vs xs) {k : Int} {v : α} (g : getv vs k = some v) :
    vs.length ≤ 1000 ∧ ∃ (j : Nat) (z : β), xs[j]? = some z ∧ R v z ∧ -(xs.length : Int) ≤ k ∧ k < xs.length ∧ (j : Int) = (if k < 0 then k + xs.length else k) := by
  unfold getv at g
  cases z : small vs.length with
  | false => rw [z] at g; cases g
  | true =>
    rw [z] at g
    have hl := small_le z
    refine ⟨hl, ?_⟩
    have hlen := h.length
    cases k with
    | ofNat n =>
      have g : nth vs n = some v := g
      rw [nth_get] at g
      obtain ⟨y, hy, r⟩ := h.get g
      have hn : n < vs.length := (List.getElem?_eq_some_iff.mp g).1
      refine ⟨n, y, hy, r, ?_, ?_, ?_⟩
      · show -(xs.length : Int) ≤ (n : Int); omega
      · show (n : Int) < xs.length; omega
      · show (n : Int) = if (n : Int) < 0 then _ else (n : Int)
        rw [if_neg (by omega)]
    | negSucc n =>
      have g : (bif Nat.blt n vs.length then nth vs (vs.length - (n + 1)) else none) = some v := g
      cases z2 : Nat.blt n vs.length with
      | false => rw [z2] at g; cases g
      | true =>
        rw [z2] at g
        have g : nth vs (vs.length - (n + 1)) = some v := g
        have hn : n < vs.length := Nat.le_of_ble_eq_true z2
        rw [nth_get] at g
        obtain ⟨y, hy, r⟩ := h.get g
        have e : Int.negSucc n = -(n : Int) - 1 := by omega
        refine ⟨vs.length - (n + 1), y, hy, r, ?_, ?_, ?_⟩
        · omega
        · omega
        · rw [if_pos (by omega)]; omega
theorem seqIndex_of {k : Int} {n j : Nat} (h1 : -(n : Int) ≤ k) (h2 : k < n) (h3 : (j : Int) = (if k < 0 then k + n else k)) : seqIndex? k n = some j := by
  unfold seqIndex?
  have e : (if k < 0 then k + (n : Int) else k) = (j : Int) := h3.symm
  have hj : (j : Int) < n := by rw [h3]; split <;> omega
  simp only [e]
  rw [if_pos (by simp; omega)]
  rfl
theorem subv_sound (S : St G h₀ L m Y ρ σ s.heap) (ha : VR G ρ a x) (hb : VR G ρ b y) {value : Expr} {e : PE} (h : PostO G C fr h₀ L m Y (VR G) ρ (ofOpt (subv σ a b) σ) Q E s) :
    wpAny (model prog w) A (subscriptTail value (toE G.nm e) x y) Q E s := by
  obtain ⟨v, hv, h1⟩ := PostO.of_some h
  cases b with
  | int k =>
    cases hb with | int _ u =>
    cases a with
    | str t =>
      cases ha with | str _ t' =>
      cases k with
      | ofNat n =>
        have hv : (bif Nat.ble n 1000 then (nth t n).map (fun c => AV.str [c]) else none) = some v := hv
        cases zn : Nat.ble n 1000 with
        | false => rw [zn] at hv; cases hv
        | true =>
        rw [zn] at hv
        have hn1 := Nat.le_of_ble_eq_true zn
        have hv : (nth t n).map (fun c => AV.str [c]) = some v := hv
        rw [nth_get] at hv
        cases z : t[n]? with
        | none => rw [z] at hv; cases hv
        | some c =>
          rw [z] at hv
          cases hv
          have hn : n < t.length := (List.getElem?_eq_some_iff.mp z).1
          · refine tail_any (typeIs_str s _ t') F.slot_str_getitem.lookup (P.getItem_str (c := c) ?_ ?_ (h1.val S (.str [c] _) _)) (noSlice _ _ _ _)
            · have e1 : ¬ ((Int.ofNat n) < -(2 ^ 63 : Int)) := by show ¬ ((n : Int) < _); omega
              have e2 : ¬ ((Int.ofNat n) ≥ (2 ^ 63 : Int)) := by show ¬ ((n : Int) ≥ _); omega
              simp only [e1, e2, decide_false, Bool.or_false]
            · rw [seqIndex_of (j := n) (n := (⟨t.toArray⟩ : PySem.Str).length)]
              · show t.toArray[n]? = some c
                simpa using z
              · show -(_ : Int) ≤ (n : Int); omega
              · show (n : Int) < ((t.toArray.size : Nat) : Int); simp; omega
              · show (n : Int) = if (n : Int) < 0 then _ else (n : Int); rw [if_neg (by omega)]
      | negSucc n => cases hv
    | ref i =>
      cases ha with | @ref _ p hp =>
      cases z : look σ i with
      | none => simp [subv, items, z] at hv
      | some o =>
        cases o with
        | tup vs =>
          obtain ⟨xs, it, hvs, k', hg⟩ := at_tup S z hp
          have hv : getv vs k = some v := by simpa [subv, items, z] using hv
          obtain ⟨hl, j, q, hz, r, g1, g2, g3⟩ := getv_get hvs hv
          have hxl : xs.length ≤ 1000 := by rw [hvs.len]; exact hl
          exact item_tupleT (j := j) (x := q) it (by omega) (by omega) (seqIndex_of g1 g2 g3) hz (h1.val' S r) (noSlice _ _ _ _)
        | lst vs =>
          obtain ⟨xs, it, hvs, k', hg⟩ := at_lst S z hp
          have hv : getv vs k = some v := by simpa [subv, items, z] using hv
          obtain ⟨hl, j, q, hz, r, g1, g2, g3⟩ := getv_get hvs hv
          have hxl : xs.length ≤ 1000 := by rw [hvs.len]; exact hl
          by_cases h0 : k < 0
          · rw [if_pos h0] at g3
            exact tail_any it.typeIs slot_list_getitem.lookup (wpAny_getItem_list_neg (x := q) it h0 (by simpa using g1) (by omega) (by rw [List.size_toArray, ← g3]; simpa using hz) (h1.val' S r)) (noSlice _ _ _ _)
          · rw [if_neg h0] at g3
            exact tail_any it.typeIs slot_list_getitem.lookup (wpAny_getItem_list (x := q) it (by omega) (by omega) (by rw [← g3]; simpa using hz) (h1.val' S r)) (noSlice _ _ _ _)
        | inst c d => simp [subv, items, z] at hv
        | dct es => simp [subv, items, z] at hv
        | lit l j => simp [subv, items, z] at hv
    | _ => cases hv
  | _ => cases hv
theorem cut_eq (t : List Nat) {k n : Nat} (h1 : k ≤ n) (h2 : k ≤ t.length) : Txt.slice ⟨t.toArray⟩ (some (k : Int)) (some (n : Int)) = ⟨(cut t k n).toArray⟩ := by
  have hlen : (⟨t.toArray⟩ : PySem.Str).length = t.length := by simp [PySem.Str.length]
  have e : Txt.slice ⟨t.toArray⟩ (some (k : Int)) (some (n : Int)) = Txt.slice ⟨t.toArray⟩ (some (k : Int)) (some ((min n t.length : Nat) : Int)) := by
    have : ∀ len : Nat, Builtin.Str.strSliceIndices (some (k : Int)) (some (n : Int)) 1 len = Builtin.Str.strSliceIndices (some (k : Int)) (some ((min n len : Nat) : Int)) 1 len := by
      intro len
      have a1 : ¬ ((n : Int) < 0) := by omega
      have a2 : ¬ (((min n len : Nat) : Int) < 0) := by omega
      have a3 : max (0 : Int) (min (n : Int) (len : Int)) = max (0 : Int) (min ((min n len : Nat) : Int) (len : Int)) := by omega
      simp only [Builtin.Str.strSliceIndices, a1, a2, if_false, a3, show (1 : Int) > 0 from by decide, if_true]
    unfold Txt.slice
    rw [hlen, this]
  rw [e]
  have := StrLaws.sliceText_nat ⟨t.toArray⟩ (a := k) (b := min n t.length) (by omega) (by rw [hlen]; omega)
  exact this
theorem sl1_sound (S : St G h₀ L m Y ρ σ s.heap) {p : Addr} {i k : Nat} {vs : List AV} {u : Tok} {v : PySem.Str} {vp sp : Pos} {e : PE} (hp : ρ[i]? = some p) (z : look σ i = some (.tup vs))
    (hc : (small vs.length && Nat.ble 1 k && Nat.ble k vs.length) = true) (h : PostO G C fr h₀ L m Y (VR G) ρ (.ok (.ref (Mine.alloc σ (.tup (vs.drop k))).1) (Mine.alloc σ (.tup (vs.drop k))).2) Q E s) :
    wpAny (model prog w) A (subscriptTail (.Name v vp) (.Slice (some (toE G.nm e)) none none sp) (.ref p) (.ref s.heap.objs.size)) Q E
      { s with heap := s.heap.push { cls := .type "slice", data := .fields #[.int k u, .none, .none] } } := by
  obtain ⟨c1, c3⟩ := and3 hc
  obtain ⟨c1, c2⟩ := and3 c1
  have c1 := small_le c1
  have c2 := Nat.le_of_ble_eq_true c2
  have c3 := Nat.le_of_ble_eq_true c3
  obtain ⟨xs, it, hvs, k', hg⟩ := at_tup S z hp
  have hxl : xs.length = vs.length := hvs.len
  obtain ⟨news, X, S⟩ := S
  refine slice_tuple_from S.F S.N it c2 (by rw [List.size_toArray, hxl]; exact c3) (fun h' F' N' => ?_) rfl (fun r => rfl) (by rw [List.size_toArray]; exact sz1000 (by omega))
  exact h (ρ ++ [s.heap.objs.size + 1]) _ h' s.toks (pre_snoc _ _) (S.alloc' (Nat.le_succ _) (.tup 0 (VRs.mono (pre_snoc _ _) (All2.drop hvs k))) F' N') (.ref (S.ix _ _))
theorem sl2_sound (S : St G h₀ L m Y ρ σ s.heap) {k n : Nat} {t : List Nat} {tt u u' : Tok} {v : PySem.Str} {vp sp : Pos} {e e' : PE}
    (hc : (small t.length && Nat.ble k n && Nat.ble k t.length) = true) (h : PostO G C fr h₀ L m Y (VR G) ρ (.ok (.str (cut t k n)) σ) Q E s) :
    wpAny (model prog w) A (subscriptTail (.Name v vp) (.Slice (some (toE G.nm e)) (some (toE G.nm e')) none sp) (.str ⟨t.toArray⟩ tt) (.ref s.heap.objs.size)) Q E
      { s with heap := s.heap.push { cls := .type "slice", data := .fields #[.int k u, .int n u', .none] } } := by
  obtain ⟨c1, c3⟩ := and3 hc
  obtain ⟨c1, c2⟩ := and3 c1
  have c1 := small_le c1
  have c2 := Nat.le_of_ble_eq_true c2
  have c3 := Nat.le_of_ble_eq_true c3
  obtain ⟨news, X, S⟩ := S
  refine slice_strN_ss S.F S.N (fun h' t' tk F' N' => ?_) rfl (fun r => rfl) (sz1000 (by simpa [PySem.Str.length] using c1))
  rw [cut_eq t c2 c3]
  exact h ρ _ h' tk (List.prefix_refl _) ⟨news, X, S.len, F', N', S.nd, S.R, S.X⟩ (.str _ _)
end
end Mine
end

section
set_option maxRecDepth 100000
namespace Mine
open PySem PySem.W PyProof.Rows PySem.Calls PySem.SeqAt
/-- the builtins that the program names, and the tables of texts -/
structure Fit (G : Mn) (tb : Tb) : Prop where
  b0 : G.bV 0 = .builtin "len"
  b1 : G.bV 1 = .type "int"
  b2 : G.bV 2 = .builtin "max"
  b3 : G.bV 3 = .builtin "sum"
  b4 : G.bV 4 = .type "tuple"
  b5 : G.bV 5 = .builtin "abs"
  b6 : G.bV 6 = .type "str"
  i1 : G.io 1 = if G.io 0 < 0 then -G.io 0 else G.io 0
  neg : tb.neg = decide (G.io 0 < 0)
  dd : tb.D = G.D
  d0 : ((Str.ofString (toString (G.io 1))).length : Int) = G.D
  dl : G.D ≤ 1000
  il : (G.io 1).natAbs.log2 < 1920
  tSplit : ∀ s ps, sget tb.tSplit s = some ps → Txt.split ⟨s.toArray⟩ ⟨#[32]⟩ = ps.map (fun p => (⟨p.toArray⟩ : PySem.Str)) ∧ s.length ≤ 1000
  tInt : ∀ s n, sget tb.tInt s = some n → PySem.intText? ⟨s.toArray⟩ = some (n : Int) ∧ s.length ≤ 640
  tFind : ∀ s k r, fget tb.tFind s k = some r → Txt.find3 ⟨s.toArray⟩ ⟨#[41]⟩ (k : Int) = r
  nSplit : G.nm tb.nSplit = "split"
  nJoin : G.nm tb.nJoin = "join"
  nFind : G.nm tb.nFind = "find"
  nAppend : G.nm tb.nAppend = "append"
section
variable {prog : Program} {w : World} {A : Around} {E : Value → Shared → Prop} {s : Shared} {G : Mn} {C : Addr} {fr : List Env} {h₀ : Heap} {L : Addr} {m : PySem.Str → Option Value} {Y : List (Addr × Obj)}
  {ρ : List Addr} {σ : Sig} {Q : Value → Shared → Prop} {a b : AV} {x y : Value} {h : Heap} {tb : Tb}
theorem len_fit {n : Nat} (h : n ≤ 1000000) : (n : Int) < 2 ^ 63 := by omega
theorem lenV_sound (Ft : Fit G tb) (S : St G h₀ L m Y ρ σ s.heap) (ha : VR G ρ a x) {n : Int} (h : lenV tb σ a = some n) (q : ∀ t tk, Q (.int n t) { s with toks := tk }) :
    wpAny (model prog w) A (call (.builtin "len") [x]) Q E s := by
  cases a with
  | str t =>
    cases ha
    have h : (bif small t.length then some (t.length : Int) else none) = some n := h
    cases z : small t.length with
    | false => rw [z] at h; cases h
    | true =>
      rw [z] at h
      cases h
      have := small_le z
      have e : (⟨t.toArray⟩ : PySem.Str).length = t.length := by simp [PySem.Str.length]
      exact P.len_str (by rw [e]; omega) (by rw [e]; exact q _ _)
  | byt k =>
    have h : (bif Nat.ble k 1000000 then some (k : Int) else none) = some n := h
    cases ha with | byt b t =>
    cases z : Nat.ble b.size 1000000 with
    | false => rw [z] at h; cases h
    | true =>
      rw [z] at h
      cases h
      have := Nat.le_of_ble_eq_true z
      exact len_bytes (by omega) (q _ _)
  | sstr =>
    have h : tb.D = n := Option.some.inj h
    cases ha with | sstr z t e =>
    have hd := Ft.dl
    have hn : (z.length : Int) = n := by rw [e, ← h, Ft.dd]
    exact P.len_str (by omega) (by rw [hn]; exact q _ _)
  | ref i =>
    cases ha with | @ref _ p hp =>
    cases z : look σ i with
    | none => simp [lenV, z] at h
    | some o =>
      cases o with
      | tup vs =>
        obtain ⟨xs, it, hvs, k', hg⟩ := at_tup S z hp
        have h : (bif small vs.length then some (vs.length : Int) else none) = some n := by simpa [lenV, z] using h
        cases zz : small vs.length with
        | false => rw [zz] at h; cases h
        | true =>
          rw [zz] at h
          cases h
          have := small_le zz
          have e : xs.toArray.size = vs.length := by rw [List.size_toArray, hvs.len]
          exact PyProof.Rows.len_tuple it (by rw [e]; omega) (by rw [e]; exact q _ _)
      | lst vs =>
        obtain ⟨xs, it, hvs, k', hg⟩ := at_lst S z hp
        have h : (bif small vs.length then some (vs.length : Int) else none) = some n := by simpa [lenV, z] using h
        cases zz : small vs.length with
        | false => rw [zz] at h; cases h
        | true =>
          rw [zz] at h
          cases h
          have := small_le zz
          have e : xs.toArray.size = vs.length := by rw [List.size_toArray, hvs.len]
          exact Calls.call_len_list it (by rw [e]; omega) (by rw [e]; exact q _ _)
      | inst c d => simp [lenV, z] at h
      | dct es => simp [lenV, z] at h
      | lit l j => simp [lenV, z] at h
  | _ => cases h
theorem intV_sound (Ft : Fit G tb) (ha : VR G ρ a x) {n : Int} (h : intV tb a = some n) (q : ∀ t tk, Q (.int n t) { s with toks := tk }) :
    wpAny (model prog w) A (call (.type "int") [x]) Q E s := by
  cases a with
  | int k =>
    cases ha
    cases h
    exact call_int_int (q _ s.toks)
  | bool b =>
    cases ha
    cases h
    exact call_int_bool (by cases b <;> exact q _ _)
  | str t =>
    cases ha
    have h : (sget tb.tInt t).map Int.ofNat = some n := h
    cases z : sget tb.tInt t with
    | none => rw [z] at h; cases h
    | some k =>
      rw [z] at h
      cases h
      obtain ⟨h1, h2⟩ := Ft.tInt t k z
      exact KIN.call_text h1 (by simpa [PySem.Str.length] using h2) (q _ _)
  | _ => cases h
theorem sumL_ints : ∀ {vs : List AV} {xs : List Value}, VRs G ρ vs xs → ∀ {n : Int}, sumL vs = some n → ∃ ns, IntsAre xs ns ∧ ns.sum = n := by
  intro vs xs r
  induction r with
  | nil => intro n h; exact ⟨[], .nil, Option.some.inj h⟩
  | @cons v x vs xs rv _ ih =>
    intro n h
    cases v with
    | int k =>
      cases rv with | int _ t =>
      have h : (sumL vs).map (k + ·) = some n := h
      cases z : sumL vs with
      | none => rw [z] at h; cases h
      | some q =>
        rw [z] at h
        obtain ⟨ns, i, e⟩ := ih z
        exact ⟨k :: ns, .cons k t i, by rw [List.sum_cons, e]; exact Option.some.inj h⟩
    | _ => cases h
theorem St.heap' (news X : List (Addr × Obj)) {h' : Heap} (S : StW G h₀ L m Y ρ σ h news X) (F' : Fr h₀ L h' m) (N' : News h₀ L h' (news ++ X)) : St G h₀ L m Y ρ σ h' := ⟨news, X, S.len, F', N', S.nd, S.R, S.X⟩
theorem sumV_sound (hh : A.handled = none) (S : St G h₀ L m Y ρ σ s.heap) (ha : VR G ρ a x) {n : Int} (h : sumV σ a = some n) (q : ∀ t h' tk, St G h₀ L m Y ρ σ h' → Q (.int n t) { s with heap := h', toks := tk }) :
    wpAny (model prog w) A (call (.builtin "sum") [x]) Q E s := by
  cases a with
  | ref i =>
    cases ha with | @ref _ p hp =>
    cases z : look σ i with
    | none => simp [sumV, z] at h
    | some o =>
      cases o with
      | lst vs =>
        obtain ⟨xs, it, hvs, k', hg⟩ := at_lst S z hp
        have h : sumL vs = some n := by simpa [sumV, z] using h
        obtain ⟨ns, hi, e⟩ := sumL_ints hvs h
        obtain ⟨news, X, S⟩ := S
        exact sumK hh S.F S.N it hi fun h' tk t' F' N' => by rw [e]; exact q t' h' tk (St.heap' _ _ S F' N')
      | tup vs => simp [sumV, z] at h
      | inst c d => simp [sumV, z] at h
      | dct es => simp [sumV, z] at h
      | lit l j => simp [sumV, z] at h
  | _ => cases h
theorem tupV_sound (S : St G h₀ L m Y ρ σ s.heap) (ha : VR G ρ a x) (h : PostO G C fr h₀ L m Y (VR G) ρ (tupV σ a) Q E s) :
    wpAny (model prog w) A (call (.type "tuple") [x]) Q E s := by
  cases a with
  | ref i =>
    cases ha with | @ref _ p hp =>
    cases z : look σ i with
    | none => simp [tupV, z, PostO] at h
    | some o =>
      cases o with
      | lst vs =>
        obtain ⟨xs, it, hvs, k', hg⟩ := at_lst S z hp
        simp only [tupV, z] at h
        cases zz : small vs.length with
        | false => rw [zz] at h; exact h.elim
        | true =>
          rw [zz] at h
          have := small_le zz
          obtain ⟨news, X, S⟩ := S
          refine call_tuple_list it (fun h' hk => ?_) (by rw [List.size_toArray, hvs.len]; exact sz1000 this)
          have S' := S.keeps hk
          exact PostO.ok h _ s.toks (pre_snoc ρ _) (S'.alloc (.tup 0 (VRs.mono (pre_snoc _ _) hvs))) (.ref (S'.ix h'.objs.size (.tup vs)))
      | tup vs => simp [tupV, z, PostO] at h
      | inst c d => simp [tupV, z, PostO] at h
      | dct es => simp [tupV, z, PostO] at h
      | lit l j => simp [tupV, z, PostO] at h
  | _ => exact h.elim
theorem callBi1_sound (Ft : Fit G tb) (hh : A.handled = none) (S : St G h₀ L m Y ρ σ s.heap) {k : Nat} (ha : VR G ρ a x) (h : PostO G C fr h₀ L m Y (VR G) ρ (callBi1 tb σ k a) Q E s) :
    wpAny (model prog w) A (call (G.bV k) [x]) Q E s := by
  unfold callBi1 at h
  split at h
  · rw [Ft.b0]
    cases z : lenV tb σ a with
    | none => rw [z] at h; exact h.elim
    | some n => rw [z] at h; exact lenV_sound Ft S ha z fun t tk => h.val S (.int n t) tk
  · rw [Ft.b1]
    cases z : intV tb a with
    | none => rw [z] at h; exact h.elim
    | some n => rw [z] at h; exact intV_sound Ft ha z fun t tk => h.val S (.int n t) tk
  · rw [Ft.b3]
    cases z : sumV σ a with
    | none => rw [z] at h; exact h.elim
    | some n => rw [z] at h; exact sumV_sound hh S ha z fun t h' tk S' => h ρ _ h' tk (List.prefix_refl _) S' (.int n t)
  · rw [Ft.b4]
    exact tupV_sound S ha h
  · rw [Ft.b5]
    split at h
    · cases ha with | sym _ t =>
      refine call_abs_int fun u tk => ?_
      rw [← Ft.i1]
      exact h.val S (.sym 1 u) tk
    · cases ha with | int _ t =>
      exact call_abs_int fun u tk => h.val S (.int _ u) tk
    · exact h.elim
  · rw [Ft.b6]
    split at h
    · cases ha with | sym _ t =>
      exact P.str_of_int Ft.il (h.val S (.sstr _ _ Ft.d0) _)
    · exact h.elim
  · exact h.elim
theorem maxV_sound (hh : A.handled = none) (S : St G h₀ L m Y ρ σ s.heap) (h1 : VR G ρ a x) (h2 : VR G ρ b y) (h : PostO G C fr h₀ L m Y (VR G) ρ (maxV a b σ) Q E s) :
    wpAny (model prog w) A (call (.builtin "max") [x, y]) Q E s := by
  cases a with
  | int p =>
    cases b with
    | int q =>
      cases h1; cases h2
      obtain ⟨news, X, S⟩ := S
      refine max_two_N hh S.F S.N fun h' tk F' N' => ?_
      have e : (bif decide (p < q) then q else p) = if q > p then q else p := by
        by_cases c : p < q
        · rw [decide_eq_true c, if_pos c]; rfl
        · rw [decide_eq_false c, if_neg c]; rfl
      rw [← e]
      exact h ρ _ h' tk (List.prefix_refl _) (St.heap' _ _ S F' N') (.int _ _)
    | _ => exact h.elim
  | _ => exact h.elim
theorem callBi_sound (Ft : Fit G tb) (hh : A.handled = none) (S : St G h₀ L m Y ρ σ s.heap) {k : Nat} {as : List AV} {xs : List Value} (ha : VRs G ρ as xs) (h : PostO G C fr h₀ L m Y (VR G) ρ (callBi tb σ k as) Q E s) :
    wpAny (model prog w) A (call (G.bV k) xs) Q E s := by
  unfold callBi at h
  split at h
  · cases ha with | cons h1 h2 =>
    cases h2
    exact callBi1_sound Ft hh S h1 h
  · cases ha with | cons h1 h2 =>
    cases h2 with | cons h2 h3 =>
    cases h3
    cases z : Nat.beq k 2 with
    | false => rw [z] at h; exact h.elim
    | true =>
      rw [z] at h
      have := Nat.eq_of_beq_eq_true z
      subst this
      rw [Ft.b2]
      exact maxV_sound hh S h1 h2 h
  · exact h.elim
end
end Mine
end

section
set_option maxRecDepth 100000
namespace Mine
open PySem PySem.W PyProof.Rows PySem.Calls PySem.SeqAt
/-- the world of the run -/
structure Wd where
  prog : Program
  w : World
  G : Mn
  tb : Tb
  K : Frag
  p : Program
  loose : List PySem.Str
  C : Addr
  mg : PySem.Str → Option Value
  mb : PySem.Str → Option Value
  h₀ : Heap
structure ClsOk (W : Wd) (c : Nat) (R : ClsRec) : Prop where
  keep : keepIn W.K (.ref (W.G.cA c)) = true
  make : makesIn W.K (W.G.cA c) = true
  init : findIn W.K (.ref (W.G.cA c)) "__init__" = some (some (.ref (W.G.fA R.init)))
  initF : isFn W.K (.ref (W.G.fA R.init)) = true
  get : plainGet W.K (W.G.cA c) "" = true
  hasD : hasDictIn W.K (W.G.cA c) = true
  setA : findIn W.K (.ref (W.G.cA c)) "__setattr__" = some (some (.builtin "object.__setattr__"))
  over : plainOver W.K (W.G.cA c) = true
  attr : ∀ n, nelem R.attrs n = true → findIn W.K (.ref (W.G.cA c)) (W.G.nm n) = some none
  take : ∀ n, nelem R.attrs n = true → takerIn W.K (W.G.cA c) (W.G.nm n) = some none
  meth : ∀ n k, aget R.meths n = some k → findIn W.K (.ref (W.G.cA c)) (W.G.nm n) = some (some (.ref (W.G.fA k))) ∧ isFn W.K (.ref (W.G.fA k)) = true ∧ keepIn W.K (.ref (W.G.fA k)) = true
structure FnOk (W : Wd) (k : Nat) (R : FnRec) (o : Obj) (fd : FuncData) : Prop where
  lk : W.K.lookup (W.G.fA k) = some o
  dt : o.data = .func fd
  body : fd.body = .stmts (toSs W.G.nm R.body)
  code : codeIn W.K fd.code fd.qualname = true
  co : fd.scope.isCoroutine = false
  gen : fd.scope.isGenerator = false
  kind : fd.scope.kind = .function
  cell : ∀ x ∈ fd.scope.names, x.2 ≠ .cell
  locs : ∀ x, nelem R.locs x = true → fd.scope.names.lookup (W.G.nm x) = some .local
  glbs : ∀ x, nelem R.glbs x = true → fd.scope.names.lookup (W.G.nm x) = some .globalImplicit
  gl : fd.globals = mainGlobals
  bu : fd.builtins = builtinsNs
  bind : ∀ {as l vs ρ} {s : Shared}, zipP R.params as R.dflts = some l → VRs W.G ρ as vs → W.K.In s.heap → ∃ binds, BindsTo s fd ⟨vs, []⟩ binds ∧ (∀ y ∈ binds, fd.scope.names.lookup y.1 = some .local) ∧
    ∀ x a, aget l x = some a → ∃ v, binds.reverse.lookup (W.G.nm x) = some v ∧ VR W.G ρ a v ∧ fd.scope.names.lookup (W.G.nm x) = some .local
structure Sta (W : Wd) : Prop where
  X₀ : W.K.In W.h₀
  T : TopRead W.p W.loose W.mg W.mb W.h₀
  fit : Fit W.G W.tb
  nd : ∀ x, (W.G.nm x == ("__debug__" : PySem.Str)) = false
  ns : ∀ x, W.G.nm x ≠ "super"
  glob : ∀ x v, aget W.tb.gT x = some v → (∃ val, nsIn W.K mainGlobals (W.G.nm x) = some (some val) ∧ ∀ ρ, VR W.G ρ v val) ∨
    (nsIn W.K mainGlobals (W.G.nm x) = some none ∧ W.G.nm x ≠ "__name__" ∧ ∃ val, bootBuiltins (W.G.nm x) = some val ∧ ∀ ρ, VR W.G ρ v val)
  fnk : ∀ k, keepIn W.K (.ref (W.G.fA k)) = true
  fn : ∀ k R, aget W.tb.fnT k = some R → ∃ o fd, FnOk W k R o fd
  clk : ∀ k, keepIn W.K (.ref (W.G.cA k)) = true
  bik : ∀ k, (∃ id, W.G.bV k = .builtin id) ∨ ∃ T, W.G.bV k = .type T
  cls : ∀ c R, aget W.tb.clsT c = some R → ClsOk W c R
/-- a frame -/
structure Cx (W : Wd) (L : Addr) (Y : List (Addr × Obj)) (fi : FI) (env : Env) (A : Around) (fr : List Env) : Prop where
  fk : env.scope.kind = .function
  lo : env.locals = L
  gl : env.globals = mainGlobals
  bu : env.builtins = builtinsNs
  li : ∀ x, nelem fi.locs x = true → env.kindOf (W.G.nm x) = some .local
  gi : ∀ x, nelem fi.glbs x = true → env.kindOf (W.G.nm x) = some .globalImplicit
  un : A.units + 200 * fi.cc + 100 < cLine
  hd : A.handled = none
  dp : A.depth + 8 * fi.cc + 4 < recursionLimit
  fs : A.frames = some fr
  ff : ∀ e ∈ fr, e.scope.kind ≠ .module ∧ ∃ a, e.frame = some a ∧ (a = L ∨ ∃ o es n, (a, o) ∈ Y ∧ o.data = .dict es n)
  ce : ∀ x a, aget fi.cel x = some a → ∃ c o v, env.kindOf (W.G.nm x) = some .cell ∧ env.cells.lookup (W.G.nm x) = some c ∧ (c, o) ∈ Y ∧ o.data = .cell (some v) ∧ ∀ ρ, VR W.G ρ a v
/-- a call's surroundings -/
structure Cc (W : Wd) (L : Addr) (Y : List (Addr × Obj)) (A : Around) (fr : List Env) (c : Nat) : Prop where
  un : A.units + 200 * c + 190 < cLine
  hd : A.handled = none
  dp : A.depth + 8 * c + 8 < recursionLimit
  fs : A.frames = some fr
  ff : ∀ e ∈ fr, e.scope.kind ≠ .module ∧ ∃ a, e.frame = some a ∧ (a = L ∨ ∃ o es n, (a, o) ∈ Y ∧ o.data = .dict es n)
theorem Cx.cc {W : Wd} {L : Addr} {Y : List (Addr × Obj)} {fi : FI} {env : Env} {A : Around} {fr : List Env} (x : Cx W L Y fi env A fr) {c : Nat} (h : c + 1 ≤ fi.cc) : Cc W L Y A fr c :=
  ⟨by have := x.un; omega, x.hd, by have := x.dp; omega, x.fs, x.ff⟩
theorem Cx.ccU {W : Wd} {L : Addr} {Y : List (Addr × Obj)} {fi : FI} {env : Env} {A : Around} {fr : List Env} (x : Cx W L Y fi env A fr) {c : Nat} (h : c + 1 ≤ fi.cc) {C : Addr} {vals : List Value} {kw : List (PySem.Str × Value)} :
    Cc W L Y (A.under (.builtin "type.__call__" ⟨.ref C :: vals, kw⟩)) fr c :=
  ⟨by have h1 : (A.under (.builtin "type.__call__" ⟨.ref C :: vals, kw⟩)).units = A.units + 1 := rfl
      have := x.un; rw [h1]; omega, x.hd,
   by have h1 : (A.under (.builtin "type.__call__" ⟨.ref C :: vals, kw⟩)).depth = A.depth + 1 := rfl
      have := x.dp; rw [h1]; omega, x.fs, x.ff⟩
/-- where a comprehension's iterator stands -/
inductive SrcI (ρ : List Addr) : AV → Nat → Obj → Prop where
  | list {i : Nat} {a : Addr} {j : Nat} {o : Obj} : ρ[i]? = some a → o.cls = .type "list_iterator" → o.data = .fields #[.ref a, .int j 0] → SrcI ρ (.ref i) j o
  | tup {i : Nat} {a : Addr} {j : Nat} {o : Obj} : ρ[i]? = some a → o.cls = .type "tuple_iterator" → o.data = .fields #[.ref a, .int j 0] → SrcI ρ (.sym i) j o
  | str {t : List Nat} {k : Tok} {j : Nat} {o : Obj} : o.cls = .type "str_ascii_iterator" → o.data = .fields #[.str ⟨t.toArray⟩ k, .int j 0] → SrcI ρ (.str t) j o
section
variable (W : Wd)
/-- what the interpreter says holds of the machine -/
structure Sound (ih : Itp) : Prop where
  ev : ∀ {L Y fi env A fr m l e σ ρ s Q E}, Cx W L Y fi env A fr → St W.G W.h₀ L m Y ρ σ s.heap → LR W.G env ρ l m → PostO W.G W.C fr W.h₀ L m Y (VR W.G) ρ (ih.ev fi l e σ) Q E s →
    wpAny (model W.prog W.w) A (eval (toE W.G.nm e) env) Q E s
  evs : ∀ {L Y fi env A fr m l es σ ρ s Q E}, Cx W L Y fi env A fr → St W.G W.h₀ L m Y ρ σ s.heap → LR W.G env ρ l m → PostO W.G W.C fr W.h₀ L m Y (VRs W.G) ρ (ih.evs fi l es σ) Q E s →
    wpAny (model W.prog W.w) A (spliced ((toEs W.G.nm es).map fun e => (false, eval e env))) Q E s
  tr : ∀ {L Y fi env A fr m l e σ ρ s Q E}, Cx W L Y fi env A fr → St W.G W.h₀ L m Y ρ σ s.heap → LR W.G env ρ l m → PostO W.G W.C fr W.h₀ L m Y (fun _ a b => a = b) ρ (ih.tr fi l e σ) Q E s →
    wpAny (model W.prog W.w) A (isTrue (toE W.G.nm e) env (eval (toE W.G.nm e) env)) Q E s
  trs : ∀ {L Y fi env A fr m l op es p σ ρ s Q E}, Cx W L Y fi env A fr → St W.G W.h₀ L m Y ρ σ s.heap → LR W.G env ρ l m → PostO W.G W.C fr W.h₀ L m Y (fun _ a b => a = b) ρ (ih.trs op fi l es σ) Q E s → ∀ whole,
    wpAny (model W.prog W.w) A (isTrue (.BoolOp op (toEs W.G.nm es) p) env whole) Q E s
  cl : ∀ {L Y A fr m c k as xs σ ρ s}, {R : Result → Shared → Prop} → Cc W L Y A fr c → St W.G W.h₀ L m Y ρ σ s.heap → VRs W.G ρ as xs →
    PostO W.G W.C fr W.h₀ L m Y (VR W.G) ρ (ih.cl c k as σ) (fun v s' => R (.ok (.ret v)) s') (fun e s' => R (.error e) s') s →
    codeAny (model W.prog W.w) A (.call (.ref (W.G.fA k)) ⟨xs, []⟩) R s
  cmp : ∀ {Lc Y fi env A fr mc l elt ts tp iter ifs sc p src j σ ρ s I D oI ys n vs σ'}, {R : Result → Shared → Prop} → Cx W Lc ((I, oI) :: (D, PySem.W.listOf ys.toArray n) :: Y) fi env A fr →
    St W.G W.h₀ Lc mc ((I, oI) :: (D, PySem.W.listOf ys.toArray n) :: Y) ρ σ s.heap → LR W.G env ρ l mc → SrcI ρ src j oI → ys.length ≤ j → (∀ q ∈ ts, nelem fi.locs q.1 = true) → ih.cmp fi l elt ts tp ifs src j σ = .ok vs σ' →
    (∀ ρ' h' tk' mc' zs n', ρ <+: ρ' → St W.G W.h₀ Lc mc' ((D, PySem.W.listOf (ys ++ zs).toArray n') :: Y) ρ' σ' h' → VRs W.G ρ' vs zs → R (.ok .next) { s with heap := h', toks := tk' }) →
    codeAny (model W.prog W.w) A (.compLoop (.ListComp (toE W.G.nm elt) [⟨tgE W.G.nm ts tp, iter, toEs W.G.nm ifs, 0⟩] sc p) 0 (.ref I) (.ref D) env) R s
end
section
variable {W : Wd} {L : Addr} {Y : List (Addr × Obj)} {fi : FI} {env : Env} {A : Around} {fr : List Env} {m : PySem.Str → Option Value} {l : Loc} {σ : Sig} {ρ : List Addr} {s : Shared} {E : Value → Shared → Prop} {ih : Itp}
theorem starEach_plain (nm : Nat → PySem.Str) (pos : Pos) (env : Env) : ∀ (es : PEs), backTo pos (starEach (toEs nm es) env) = (toEs nm es).map fun e => (false, eval e env)
  | .nil => rfl
  | .cons e r => by
    have ih := starEach_plain nm pos env r
    have h1 : starEach (toE nm e :: toEs nm r) env = (false, eval (toE nm e) env) :: starEach (toEs nm r) env := by cases e <;> rfl
    show backTo pos (starEach (toE nm e :: toEs nm r) env) = (false, eval (toE nm e) env) :: _
    rw [h1, ← ih]
    rfl
theorem any_plain (env : Env) (es : List Expr) : ((es.map fun e => (false, eval e env)).any (·.1)) = false := by
  induction es with
  | nil => rfl
  | cons e r ih => rw [List.map_cons, List.any_cons, ih]; rfl
theorem PostO.bind' {α β α' β' : Type} {G : Mn} {C : Addr} {h₀ : Heap} {Q : β → Shared → Prop} {RR : List Addr → α → β → Prop} {RA : List Addr → α' → β' → Prop} {o : Out α'} {f : α' → Sig → Out α} (h : PostO G C fr h₀ L m Y RR ρ (o.bind f) Q E s) {Q' : β' → Shared → Prop}
    (hQ : ∀ a σ' ρ' x s', s' = { s with heap := s'.heap, toks := s'.toks } → ρ <+: ρ' → St G h₀ L m Y ρ' σ' s'.heap → RA ρ' a x → PostO G C fr h₀ L m Y RR ρ' (f a σ') Q E s' → Q' x s') :
    PostO G C fr h₀ L m Y RA ρ o Q' E s := PostO.bind h fun a σ' ρ' x h' tk' _ p st r z => hQ a σ' ρ' x { s with heap := h', toks := tk' } rfl p st r z
theorem ev_cst {c : PC} {p : Pos} {Q : Value → Shared → Prop} (S : St W.G W.h₀ L m Y ρ σ s.heap) (h : PostO W.G W.C fr W.h₀ L m Y (VR W.G) ρ (.ok (constV c) σ) Q E s) :
    wpAny (model W.prog W.w) A (eval (toE W.G.nm (.cst c p)) env) Q E s := by
  cases c with
  | none => exact Constant_none (h.val' S .none)
  | bool b => exact Constant_bool (h.val' S (.bool b))
  | int i => exact wpAny_Constant_int (h.val S (.int i _) _)
  | str x => exact Constant_str (h.val S (.str x _) _)
  | byt b =>
    have := h.val (z := .bytes (b.map UInt8.ofNat).toArray s.toks) S (by
      show VR W.G ρ (.byt b.length) _
      have e : b.length = (b.map UInt8.ofNat).toArray.size := by simp
      rw [e]; exact .byt _ _) (s.toks + 1)
    exact Constant_bytes this
theorem ev_loc (St' : Sta W) (c : Cx W L Y fi env A fr) {x : Nat} {p : Pos} {Q : Value → Shared → Prop} (S : St W.G W.h₀ L m Y ρ σ s.heap) (hl : LR W.G env ρ l m)
    (h : PostO W.G W.C fr W.h₀ L m Y (VR W.G) ρ (ofOpt (aget l x) σ) Q E s) : wpAny (model W.prog W.w) A (eval (toE W.G.nm (.loc x p)) env) Q E s := by
  obtain ⟨a, ea, h⟩ := h.of_some
  obtain ⟨hk, v, hv, r⟩ := hl x a ea
  have F : s.heap.Ns env.locals m := by obtain ⟨_, _, S⟩ := S; rw [c.lo]; exact S.F.ns
  exact wpAny_Name (wpAny_loadName_local c.fk hk F hv (h.val' S r)) (St'.nd x)
theorem ev_cel (St' : Sta W) (c : Cx W L Y fi env A fr) {x : Nat} {p : Pos} {Q : Value → Shared → Prop} (S : St W.G W.h₀ L m Y ρ σ s.heap)
    (h : PostO W.G W.C fr W.h₀ L m Y (VR W.G) ρ (ofOpt (aget fi.cel x) σ) Q E s) : wpAny (model W.prog W.w) A (eval (toE W.G.nm (.cel x p)) env) Q E s := by
  obtain ⟨a, ea, h⟩ := h.of_some
  obtain ⟨k, o, v, h1, h2, h3, h4, h5⟩ := c.ce x a ea
  obtain ⟨o', g1, g2⟩ : ∃ o', s.heap.get? k = some o' ∧ o'.data = .cell (some v) := by
    obtain ⟨news, X, S'⟩ := S
    have key : ∀ {Y X : List (Addr × Obj)}, XR Y X → (k, o) ∈ Y → ∃ o', (k, o') ∈ X ∧ o'.data = .cell (some v) := by
      intro Y X x
      induction x with
      | nil => intro h; cases h
      | @cons y x ys xs r _ ih =>
        intro hm
        rcases List.mem_cons.mp hm with e | hm
        · refine ⟨x.2, ?_, ?_⟩
          · have : x = (k, x.2) := by rw [← e] at r; exact Prod.ext r.1 rfl
            rw [← this]; exact .head _
          · have e2 : y.2 = o := by rw [← e]
            rcases r.2 with q | ⟨_, sl, q⟩
            · rw [q, e2]; exact h4
            · rw [q, e2]; exact h4
        · obtain ⟨o', q1, q2⟩ := ih hm
          exact ⟨o', .tail _ q1, q2⟩
    obtain ⟨o', q1, q2⟩ := key S'.X h3
    exact ⟨o', (S'.N _ (List.mem_append_right _ q1)).1, q2⟩
  exact wpAny_Name (wpAny_loadName_cell c.fk h1 h2 ⟨o', g1, g2⟩ (h.val' S (h5 ρ))) (St'.nd x)
theorem ev_glb (St' : Sta W) (c : Cx W L Y fi env A fr) {x : Nat} {p : Pos} {Q : Value → Shared → Prop} (S : St W.G W.h₀ L m Y ρ σ s.heap)
    (h : PostO W.G W.C fr W.h₀ L m Y (VR W.G) ρ (bif nelem fi.glbs x then ofOpt (aget W.tb.gT x) σ else .stuck) Q E s) : wpAny (model W.prog W.w) A (eval (toE W.G.nm (.glb x p)) env) Q E s := by
  cases z : nelem fi.glbs x with
  | false => rw [z] at h; exact h.elim
  | true =>
    rw [z] at h
    obtain ⟨a, ea, h⟩ := PostO.of_some h
    have F : Fr W.h₀ L s.heap m := by obtain ⟨_, _, S⟩ := S; exact S.F
    have hg : s.heap.Ns env.globals W.mg := by rw [c.gl]; exact St'.T.g.keeps F.keep
    have hb : s.heap.Ns env.builtins W.mb := by rw [c.bu]; exact St'.T.b.keeps F.keep
    rcases St'.glob x a ea with ⟨val, e1, r⟩ | ⟨e1, e2, val, e3, r⟩
    · exact Name_function_global c.fk (c.gi x z) (loadGlobal_global hg (mg_of St'.X₀ St'.T.g e1) (h.val' S (r ρ))) (St'.nd x)
    · exact Name_function_global c.fk (c.gi x z) (loadGlobal_builtin hg (mg_none_of St'.X₀ St'.T.g e1) hb ((St'.T.builtins _ e2).trans e3) (h.val' S (r ρ))) (St'.nd x)
end
end Mine
end

section
set_option maxRecDepth 100000
namespace Mine
open PySem PySem.W PyProof.Rows PySem.Calls PySem.SeqAt
section
variable {W : Wd} {L : Addr} {Y : List (Addr × Obj)} {A : Around} {fr : List Env} {m : PySem.Str → Option Value} {σ : Sig} {ρ : List Addr} {s : Shared} {E : Value → Shared → Prop} {G : Mn} {h₀ : Heap} {h : Heap}
theorem key_is (G : Mn) (i j : Nat) (t : Tok) : (Value.str (G.nm i) t).isStr (G.nm j) = Nat.beq i j := by
  show (G.nm i == G.nm j) = _
  cases z : Nat.beq i j with
  | true => have := Nat.eq_of_beq_eq_true z; subst this; exact beq_self_eq_true _
  | false =>
    have := Nat.ne_of_beq_eq_false z
    exact beq_eq_false_iff_ne.mpr fun e => this (G.inj _ _ e)
theorem ent_ref {es : List (Nat × AV)} {xs : List DictEntry} (r : All2 (EntR G ρ) es xs) : xs.any (·.refKey) = false := by
  induction r with
  | nil => rfl
  | cons a _ ih =>
    obtain ⟨⟨t, e⟩, _⟩ := a
    rw [List.any_cons, ih, Bool.or_false]
    unfold DictEntry.refKey
    rw [e]
theorem ent_find {es : List (Nat × AV)} {xs : List DictEntry} (r : All2 (EntR G ρ) es xs) (n : Nat) :
    (∀ v, aget es n = some v → ∃ e, xs.find? (·.key.isStr (G.nm n)) = some e ∧ VR G ρ v e.val) ∧ (aget es n = none → xs.find? (·.key.isStr (G.nm n)) = none) := by
  induction r with
  | nil => exact ⟨fun v h => (by cases h), fun _ => rfl⟩
  | @cons p e es xs a _ ih =>
    obtain ⟨⟨t, ek⟩, rv⟩ := a
    unfold aget
    rw [List.find?_cons]
    simp only [ek, key_is]
    cases z : Nat.beq p.1 n with
    | true =>
      refine ⟨fun v h => ⟨e, rfl, ?_⟩, fun h => (by cases h)⟩
      cases h
      exact rv
    | false => exact ih
theorem ent_get {es : List (Nat × AV)} {xs : List DictEntry} (r : All2 (EntR G ρ) es xs) {n : Nat} {v : AV} (h : aget es n = some v) : ∃ val, getL (G.nm n) xs = some (some val) ∧ VR G ρ v val := by
  obtain ⟨e, h1, h2⟩ := (ent_find r n).1 v h
  exact ⟨e.val, by unfold getL; rw [h1], h2⟩
theorem ent_none {es : List (Nat × AV)} {xs : List DictEntry} (r : All2 (EntR G ρ) es xs) {n : Nat} (h : aget es n = none) : getL (G.nm n) xs = some none := by
  unfold getL
  rw [(ent_find r n).2 h, ent_ref r]
  rfl
theorem ent_isSome {es : List (Nat × AV)} {xs : List DictEntry} (r : All2 (EntR G ρ) es xs) (n : Nat) : (getL (G.nm n) xs).isSome = true := by
  cases z : aget es n with
  | none => rw [ent_none r z]; rfl
  | some v => obtain ⟨val, e, _⟩ := ent_get r z; rw [e]; rfl
theorem ent_put {es : List (Nat × AV)} {xs : List DictEntry} (r : All2 (EntR G ρ) es xs) (n : Nat) {v : AV} {val : Value} (hv : VR G ρ v val) (hsh : Int) (t : Tok) :
    All2 (EntR G ρ) (aput es n v) (putL (G.nm n) hsh (.str (G.nm n) t) val xs) := by
  induction r with
  | nil => exact .cons ⟨⟨t, rfl⟩, hv⟩ .nil
  | @cons p e es xs a rr ih =>
    unfold aput putL
    obtain ⟨⟨t', ek⟩, rv⟩ := a
    rw [ek, key_is]
    cases z : Nat.beq p.1 n with
    | true =>
      have := Nat.eq_of_beq_eq_true z
      refine .cons ⟨⟨t', ?_⟩, hv⟩ rr
      show Value.str (G.nm p.1) t' = _
      rw [this]
    | false => exact .cons ⟨⟨t', ek⟩, rv⟩ ih
/-- an object of a class, and its dict -/
theorem inst_at (S : St G h₀ L m Y ρ σ h) {i c d : Nat} {es : List (Nat × AV)} {x : Addr} (hp : ρ[i]? = some x) (z : look σ i = some (.inst c d)) (u : look σ d = some (.dct es)) :
    ∃ dx xs n, ρ[d]? = some dx ∧ h.get? x = some (instObj (G.cA c) dx) ∧ h.get? dx = some (dictOf xs n) ∧ All2 (EntR G ρ) es xs ∧ PySem.W.InstAt h x (instObj (G.cA c) dx) (G.cA c) (some (dictOf xs n)) := by
  obtain ⟨news, X, S⟩ := S
  obtain ⟨q, o, h1, h2, h3⟩ := S.at z
  rw [hp] at h1
  cases h1
  cases h3 with
  | @inst _ _ dx hd =>
    obtain ⟨q', o', g1, g2, g3⟩ := S.at u
    rw [hd] at g1
    cases g1
    cases g3 with
    | @dct _ xs n r => exact ⟨dx, xs, n, hd, h2, g2, r, ⟨h2, rfl, rfl, g2⟩⟩
theorem noBi_handed {v w : AV} {val : Value} (h : noBi v = some w) (r : VR G ρ v val) : w = v ∧ handedIn val = true := by
  cases r <;> first | exact ⟨(Option.some.inj h).symm, rfl⟩ | cases h
theorem att_sound (Sa : Sta W) (S : St W.G W.h₀ L m Y ρ σ s.heap) {i n : Nat} {x : Addr} {v : AV} {Q : Value → Shared → Prop} {expr : Bool} (hp : ρ[i]? = some x) (h : attOf W.tb σ i n = some v)
    (q : ∀ val, VR W.G ρ v val → Q val { s with toks := s.toks + 1 }) : wpAny (model W.prog W.w) A (getAttr (.ref x) (W.G.nm n) expr) Q E s := by
  unfold attOf at h
  split at h
  · rename_i c d z
    split at h
    · rename_i R es hR u
      cases za : nelem R.attrs n with
      | false => rw [za] at h; cases h
      | true =>
        rw [za] at h
        have h : (aget es n).bind noBi = some v := h
        cases ze : aget es n with
        | none => rw [ze] at h; cases h
        | some v' =>
          rw [ze] at h
          obtain ⟨dx, xs, k, _, _, _, r, I⟩ := inst_at S hp z u
          obtain ⟨val, g1, g2⟩ := ent_get r ze
          obtain ⟨e1, e2⟩ := noBi_handed h g2
          subst e1
          have K := Sa.cls c R hR
          obtain ⟨_, _, S⟩ := S
          exact get_own S.F Sa.X₀ I K.get K.hasD (K.attr n za) rfl g1 e2 (q val g2)
    · cases h
  · cases h
theorem attSet_sound (Sa : Sta W) (S : St W.G W.h₀ L m Y ρ σ s.heap) {i n : Nat} {x : Addr} {v : AV} {val : Value} {σ' : Sig} {Q : Unit → Shared → Prop} (hp : ρ[i]? = some x) (h : attSet W.tb σ i n v = some σ') (rv : VR W.G ρ v val)
    (q : ∀ h' tk, St W.G W.h₀ L m Y ρ σ' h' → Q () { s with heap := h', toks := tk }) : wpAny (model W.prog W.w) A (setAttr (.ref x) (W.G.nm n) val) Q E s := by
  unfold attSet at h
  split at h
  · rename_i c d z
    split at h
    · rename_i R es hR u
      cases za : (nelem R.attrs n && small (es.length + 1)) with
      | false => rw [za] at h; cases h
      | true =>
        rw [za] at h
        cases h
        obtain ⟨za, zs⟩ := and3 za
        have zs := small_le zs
        obtain ⟨dx, xs, k, hd, _, hg, r, I⟩ := inst_at S hp z u
        have K := Sa.cls c R hR
        obtain ⟨news, X, S⟩ := S
        obtain ⟨a, o, g1, g2, g3, g4⟩ := S.upd u
        rw [hd] at g1
        cases g1
        rw [hg] at g2
        cases g2
        have rp := ent_put r n rv (PyData.keyHash W.w.params (W.G.nm n)) (s.toks + 1)
        have rl := rp.length
        have hl : (putL (W.G.nm n) (PyData.keyHash W.w.params (W.G.nm n)) (.str (W.G.nm n) (s.toks + 1)) val xs).length ≤ 1000 := by
          rw [← rl]
          have : ∀ (es : List (Nat × AV)), (aput es n v).length ≤ es.length + 1 := by
            intro es
            induction es with
            | nil => exact Nat.le_refl _
            | cons p r ih =>
              unfold aput
              cases Nat.beq p.1 n with
              | true => exact Nat.le_succ _
              | false => exact Nat.succ_le_succ ih
          exact Nat.le_trans (this es) zs
        obtain ⟨news', U, fin⟩ := g4 (.dct (aput es n v)) (dictOf (putL (W.G.nm n) (PyData.keyHash W.w.params (W.G.nm n)) (.str (W.G.nm n) (s.toks + 1)) val xs) (putN (W.G.nm n) xs k)) (.dct _ rp)
        exact set_dict S.F Sa.X₀ S.N I rfl K.setA K.over (K.take n za) K.hasD (ent_isSome r n) rfl U hl fun h' F' N' => q h' _ (fin h' F' N')
    · cases h
  · cases h
end
end Mine
end

section
set_option maxRecDepth 100000
namespace Mine
open PySem PySem.W PyProof.Rows PySem.Calls PySem.SeqAt
section
variable {W : Wd} {L : Addr} {Y : List (Addr × Obj)} {fi : FI} {env : Env} {A : Around} {fr : List Env} {m : PySem.Str → Option Value} {l : Loc} {σ : Sig} {ρ : List Addr} {s : Shared} {E : Value → Shared → Prop} {ih : Itp} {G : Mn}
  {Q : Value → Shared → Prop}
theorem evalArgs_any {M : Model} {A : Around} {f : Value} {ts : List (Sem Value)} {Q : Args → Shared → Prop} (h : wpAny M A (spliced (ts.map fun t => (false, t))) (fun vs s' => Q ⟨vs, []⟩ s') E s) :
    wpAny M A (evalArgs f true (ts.map fun t => (false, t)) []) Q E s := by
  cases ts with
  | cons t r => exact evalArgs_plain h
  | nil =>
    unfold evalArgs
    show wpAny M A (spliced [] >>= _) Q E s
    refine wpAny_bind (wpAny_mono h (fun vs s' h' => ?_) fun _ _ x => x)
    refine wpAny_bind (wpAny_pure ?_)
    refine wpAny_holding ?_
    exact wpAny_bind (wpAny_pure (wpAny_bind (wpAny_pure (wpAny_pure h'))))
theorem callWith_b {M : Model} {A : Around} {pos : Pos} {id : String} {first : List Value} {es : List Expr} (h : wpAny M A (spliced (es.map fun e => (false, eval e env))) (fun vs s' => wpAny M A (call (.builtin id) (first ++ vs)) Q E s') E s) :
    wpAny M A (callWith pos (.builtin id) first (es.map fun e => (false, eval e env)) []) Q E s := by
  have e : (es.map fun e => (false, eval e env)) = (es.map fun e => eval e env).map fun t => (false, t) := by rw [List.map_map]; rfl
  refine callWith_builtin (any_plain env es) ?_
  rw [e] at h ⊢
  exact evalArgs_any h
theorem callWith_t {M : Model} {A : Around} {pos : Pos} {T : String} {first : List Value} {es : List Expr} (h : wpAny M A (spliced (es.map fun e => (false, eval e env))) (fun vs s' => wpAny M A (call (.type T) (first ++ vs)) Q E s') E s) :
    wpAny M A (callWith pos (.type T) first (es.map fun e => (false, eval e env)) []) Q E s := by
  have e : (es.map fun e => (false, eval e env)) = (es.map fun e => eval e env).map fun t => (false, t) := by rw [List.map_map]; rfl
  refine PySem.callWith_type (any_plain env es) ?_
  rw [e] at h ⊢
  exact evalArgs_any h
theorem callWith_k {M : Model} {A : Around} {K : Frag} {pos : Pos} {f : Value} {first : List Value} {es : List Expr} (hk : keepIn K f = true)
    (h : wpAny M A (spliced (es.map fun e => (false, eval e env))) (fun vs s' => K.In s'.heap ∧ wpAny M A (call f (first ++ vs)) Q E s') E s) :
    wpAny M A (callWith pos f first (es.map fun e => (false, eval e env)) []) Q E s := by
  have e : (es.map fun e => (false, eval e env)) = (es.map fun e => eval e env).map fun t => (false, t) := by rw [List.map_map]; rfl
  refine callWith_of (by rw [any_plain]; rfl) (keeps_K hk) ?_
  rw [e] at h ⊢
  exact evalArgs_any h
theorem glued_nil (ys : List PySem.Str) : Builtin.Str.glued ⟨#[]⟩ ys = ⟨(ys.map (·.cps.toList)).flatten.toArray⟩ := by
  have fold : ∀ (l : List PySem.Str) (a : Array Nat), l.foldl (fun acc p => acc ++ (#[] : Array Nat) ++ p.cps) a = a ++ (l.map (·.cps.toList)).flatten.toArray := by
    intro l
    induction l with
    | nil => intro a; simp
    | cons p r ih => intro a; rw [List.foldl_cons, ih]; apply Array.ext'; simp
  unfold Builtin.Str.glued
  cases ys with
  | nil => rfl
  | cons p r =>
    show (⟨(r.foldl (fun acc p => acc ++ (#[] : Array Nat) ++ p.cps) p.cps)⟩ : PySem.Str) = _
    rw [fold]
    simp
theorem sjoin_strs : ∀ {vs : List AV} {xs : List Value}, VRs G ρ vs xs → ∀ {t : List Nat}, sjoin vs = some t → ∃ ys : List PySem.Str, StrsAre xs ys ∧ (ys.map (·.cps.toList)).flatten = t ∧ (ys.map (·.length)).sum = t.length ∧ ys.length = vs.length := by
  intro vs xs r
  induction r with
  | nil => intro t h; cases h; exact ⟨[], .nil, rfl, rfl, rfl⟩
  | @cons v x vs xs rv _ ih =>
    intro t h
    cases v with
    | str u =>
      cases rv with | str _ k =>
      have h : (sjoin vs).map (u ++ ·) = some t := h
      cases z : sjoin vs with
      | none => rw [z] at h; cases h
      | some q =>
        rw [z] at h
        obtain ⟨ys, h1, h2, h3, h4⟩ := ih z
        have h : u ++ q = t := Option.some.inj h
        refine ⟨⟨u.toArray⟩ :: ys, .cons _ k h1, ?_, ?_, ?_⟩
        · rw [List.map_cons, List.flatten_cons, h2, ← h]
        · rw [List.map_cons, List.sum_cons, h3, ← h]; simp [PySem.Str.length]
        · rw [List.length_cons, List.length_cons, h4]
    | _ => cases h
theorem strs_list {ps : List (List Nat)} {lt : List (PySem.Str × Tok)} (h : lt.map (·.1) = ps.map fun p => (⟨p.toArray⟩ : PySem.Str)) : VRs G ρ (ps.map .str) (strValues lt) := by
  induction ps generalizing lt with
  | nil => cases lt with
    | nil => exact .nil
    | cons _ _ => cases h
  | cons p r ih => cases lt with
    | nil => cases h
    | cons q t =>
      rw [List.map_cons, List.map_cons] at h
      injection h with h1 h2
      refine .cons ?_ (ih h2)
      show VR G ρ (.str p) (.str q.1 q.2)
      rw [h1]; exact .str p q.2
theorem szT {t : List Nat} (h : t.length ≤ 1000) : (⟨t.toArray⟩ : PySem.Str).length + 2 ≤ sizeLine := by
  have : (⟨t.toArray⟩ : PySem.Str).length = t.length := by simp [PySem.Str.length]
  rw [this, sizeLine_eq]; omega
theorem splitV_sound (Ft : Fit G W.tb) {C : Addr} {h₀ : Heap} (S : St G h₀ L m Y ρ σ s.heap) {t : List Nat} {k : Tok} {as : List AV} {xs : List Value} (r : VRs G ρ as xs) (h : PostO G C fr h₀ L m Y (VR G) ρ (splitV W.tb t as σ) Q E s) :
    wpAny (model W.prog W.w) A (call (.builtin "str.split") (.str ⟨t.toArray⟩ k :: xs)) Q E s := by
  unfold splitV at h
  split at h
  · cases r with | cons r1 r2 =>
    cases r2
    cases r1 with | str _ u =>
    cases ze : sget W.tb.tSplit t with
    | none => rw [ze] at h; exact h.elim
    | some ps =>
      rw [ze] at h
      cases zs : small ps.length with
      | false => simp only [zs] at h; exact h.elim
      | true =>
        simp only [zs, cond_true] at h
        obtain ⟨e1, e2⟩ := Ft.tSplit t ps ze
        obtain ⟨news, X, S⟩ := S
        refine splitN1 S.F S.N rfl (fun lt h' tk el F' N' => ?_) (szT e2)
        have hv : VRs G ρ (ps.map .str) (strValues lt) := strs_list (by rw [el]; exact e1)
        exact h _ _ h' tk (pre_snoc ρ _) (S.alloc' (Nat.le_refl _) (.lst 0 (VRs.mono (pre_snoc _ _) hv)) F' N') (.ref (S.ix _ _))
  · exact h.elim
theorem joinV_inv {C : Addr} {h₀ : Heap} {t : List Nat} {as : List AV} (h : PostO G C fr h₀ L m Y (VR G) ρ (joinV t as σ) Q E s) :
    ∃ i xs q, t = [] ∧ as = [.ref i] ∧ look σ i = some (.lst xs) ∧ sjoin xs = some q ∧ q.length ≤ 1000 ∧ xs.length ≤ 1000 ∧ PostO G C fr h₀ L m Y (VR G) ρ (.ok (.str q) σ) Q E s := by
  unfold joinV at h
  split at h
  · cases z : joinL σ _ with
    | none => rw [z] at h; exact h.elim
    | some q =>
      rw [z] at h
      unfold joinL at z
      split at z
      · rename_i xs u
        cases z2 : sjoin xs with
        | none => rw [z2] at z; cases z
        | some q' =>
          rw [z2] at z
          have z : (bif small q'.length && small xs.length then some q' else none) = some q := z
          cases z3 : (small q'.length && small xs.length) with
          | false => rw [z3] at z; cases z
          | true =>
            rw [z3] at z
            cases z
            obtain ⟨z4, z5⟩ := and3 z3
            exact ⟨_, xs, _, rfl, rfl, u, z2, small_le z4, small_le z5, h⟩
      · cases z
  · exact h.elim
theorem joinV_sound {C : Addr} {h₀ : Heap} (S : St G h₀ L m Y ρ σ s.heap) {t : List Nat} {k : Tok} {as : List AV} {xs : List Value} (r : VRs G ρ as xs) (h : PostO G C fr h₀ L m Y (VR G) ρ (joinV t as σ) Q E s) :
    wpAny (model W.prog W.w) A (call (.builtin "str.join") (.str ⟨t.toArray⟩ k :: xs)) Q E s := by
  obtain ⟨i, vs, q, rfl, rfl, u, z, l1, l2, h⟩ := joinV_inv h
  cases r with | cons r1 r2 =>
  cases r2
  cases r1 with | @ref _ p hp =>
  obtain ⟨us, it, hv, _⟩ := at_lst S u hp
  obtain ⟨ys, y1, y2, y3, y4⟩ := sjoin_strs hv z
  refine join_list it (ys := ys) (by simpa using y1) ?_ fun t' tk => ?_
  · have : (⟨([] : List Nat).toArray⟩ : PySem.Str).length = 0 := rfl
    rw [this, y3]; omega
  · have e : Txt.join ⟨([] : List Nat).toArray⟩ ys = ⟨q.toArray⟩ := by
      rw [← y2]
      exact glued_nil ys
    rw [e]
    exact h.val S (.str q t') tk
theorem findV_inv {C : Addr} {h₀ : Heap} {tb : Tb} {t : List Nat} {as : List AV} (h : PostO G C fr h₀ L m Y (VR G) ρ (findV tb t as σ) Q E s) :
    ∃ (k : Nat) (r : Int), as = [.str [41], .int k] ∧ fget tb.tFind t k = some r ∧ PostO G C fr h₀ L m Y (VR G) ρ (.ok (.int r) σ) Q E s := by
  unfold findV at h
  split at h
  · cases z : fget tb.tFind t _ with
    | none => rw [z] at h; exact h.elim
    | some q =>
      rw [z] at h
      exact ⟨_, _, rfl, z, h⟩
  · exact h.elim
theorem findV_sound (Ft : Fit G W.tb) {C : Addr} {h₀ : Heap} (S : St G h₀ L m Y ρ σ s.heap) {t : List Nat} {k : Tok} {as : List AV} {xs : List Value} (r : VRs G ρ as xs) (h : PostO G C fr h₀ L m Y (VR G) ρ (findV W.tb t as σ) Q E s) :
    wpAny (model W.prog W.w) A (call (.builtin "str.find") (.str ⟨t.toArray⟩ k :: xs)) Q E s := by
  obtain ⟨n, q, rfl, z, h⟩ := findV_inv h
  cases r with | cons r1 r2 =>
  cases r2 with | cons r2 r3 =>
  cases r3
  cases r1 with | str _ u =>
  cases r2 with | int _ u' =>
  refine SC.find3 ?_
  have e := Ft.tFind t n q z
  rw [show ([41] : List Nat).toArray = #[41] from rfl, e]
  exact h.val S (.int q _) _
/-- a text's method -/
theorem strM_sound (Sa : Sta W) {t : List Nat} {k : Tok} {n : Nat} {pl : Sem Bool} {pos : Pos} {es : List Expr}
    {o : Out (List AV)} (hs : PostO W.G W.C fr W.h₀ L m Y (VR W.G) ρ (strM W.tb t n o) Q E s)
    (ha : ∀ Q', PostO W.G W.C fr W.h₀ L m Y (VRs W.G) ρ o Q' E s → wpAny (model W.prog W.w) A (spliced (es.map fun e => (false, eval e env))) Q' E s) :
    wpAny (model W.prog W.w) A (getMethod (.str ⟨t.toArray⟩ k) (W.G.nm n) pl) (fun fx s₂ => wpAny (model W.prog W.w) A (callWith pos fx.1 fx.2 (es.map fun e => (false, eval e env)) []) Q E s₂) E s := by
  have key : ∀ {id : String} {g : List AV → Sig → Out AV}, PostO W.G W.C fr W.h₀ L m Y (VR W.G) ρ (o.bind fun vs σ => g vs σ) Q E s →
      (∀ {σ' ρ' vs xs s'}, St W.G W.h₀ L m Y ρ' σ' s'.heap → VRs W.G ρ' vs xs → PostO W.G W.C fr W.h₀ L m Y (VR W.G) ρ' (g vs σ') Q E s' → wpAny (model W.prog W.w) A (call (.builtin id) (.str ⟨t.toArray⟩ k :: xs)) Q E s') →
      wpAny (model W.prog W.w) A (callWith pos (.builtin id) [.str ⟨t.toArray⟩ k] (es.map fun e => (false, eval e env)) []) Q E s := fun {id g} h1 h2 =>
    callWith_b (ha _ (PostO.bind' h1 fun vs σ' ρ' xs s' _ p S' r h => h2 S' r h))
  unfold strM at hs
  cases z1 : Nat.beq n W.tb.nSplit with
  | true =>
    rw [z1] at hs
    have := Nat.eq_of_beq_eq_true z1
    subst this
    rw [Sa.fit.nSplit]
    exact GM.split (key (g := splitV W.tb t) hs fun S' r h => splitV_sound Sa.fit S' r h)
  | false =>
  rw [z1] at hs
  cases z2 : Nat.beq n W.tb.nJoin with
  | true =>
    rw [z2] at hs
    have := Nat.eq_of_beq_eq_true z2
    subst this
    rw [Sa.fit.nJoin]
    exact GM.join (key (g := joinV t) hs fun S' r h => joinV_sound S' r h)
  | false =>
  rw [z2] at hs
  cases z3 : Nat.beq n W.tb.nFind with
  | true =>
    rw [z3] at hs
    have := Nat.eq_of_beq_eq_true z3
    subst this
    rw [Sa.fit.nFind]
    exact GM.find (key (g := findV W.tb t) hs fun S' r h => findV_sound Sa.fit S' r h)
  | false =>
    rw [z3] at hs
    exact hs.elim
/-- list.append -/
theorem lstM_sound {C : Addr} {h₀ : Heap} (S : St G h₀ L m Y ρ σ s.heap) {i : Nat} {p : Addr} (hp : ρ[i]? = some p) {as : List AV} {xs : List Value} (r : VRs G ρ as xs) (h : PostO G C fr h₀ L m Y (VR G) ρ (lstM i as σ) Q E s) :
    wpAny (model W.prog W.w) A (call (.builtin "list.append") (.ref p :: xs)) Q E s := by
  unfold lstM at h
  split at h
  · rename_i vs u
    unfold appV at h
    split at h
    · cases r with | @cons v x _ _ r1 r2 =>
      cases r2
      cases z : small vs.length with
      | false => rw [z] at h; exact h.elim
      | true =>
        rw [z] at h
        have z := small_le z
        obtain ⟨us, it, hv, k, hg⟩ := at_lst S u hp
        obtain ⟨news, X, S⟩ := S
        obtain ⟨a, o, g1, g2, g3, g4⟩ := S.upd u
        rw [hp] at g1
        cases g1
        rw [hg] at g2
        cases g2
        have hn := All2.append hv (.cons r1 .nil)
        obtain ⟨news', U, fin⟩ := g4 _ (PySem.W.listOf (us.toArray.push x) (k + 1)) (by rw [List.push_toArray]; exact .lst (k + 1) hn)
        refine append_K S.F S.N U (fun h' F' N' => ?_) (by rw [List.size_toArray, hv.len]; exact sz1000 z)
        exact h ρ _ h' s.toks (List.prefix_refl _) (fin h' F' N') .none
    · exact h.elim
  · exact h.elim
end
end Mine
end

section
set_option maxRecDepth 100000
namespace Mine
open PySem PySem.W PyProof.Rows PySem.Calls PySem.SeqAt
/-- the count of figures: a loop, met by hand -/
noncomputable def FigOk (W : Wd) : Prop := W.tb.fig = true → ∀ {L Y A fr m σ ρ s t} {R : Result → Shared → Prop}, Cc W L Y A fr 0 → St W.G W.h₀ L m Y ρ σ s.heap →
  (∀ h' tk t', St W.G W.h₀ L m Y ρ σ h' → R (.ok (.ret (.int W.G.D t'))) { s with heap := h', toks := tk }) → codeAny (model W.prog W.w) A (.call (.ref (W.G.fA W.tb.fFig)) ⟨[.int (W.G.io 1) t], []⟩) R s
section
variable {W : Wd} {L : Addr} {Y : List (Addr × Obj)} {fi : FI} {env : Env} {A : Around} {fr : List Env} {m : PySem.Str → Option Value} {l : Loc} {σ : Sig} {ρ : List Addr} {s : Shared} {E : Value → Shared → Prop} {ih : Itp} {G : Mn}
  {Q : Value → Shared → Prop}
theorem Cc.zero {c : Nat} (x : Cc W L Y A fr c) : Cc W L Y A fr 0 := ⟨by have := x.un; omega, x.hd, by have := x.dp; omega, x.fs, x.ff⟩
theorem new_inst {C : Addr} {h₀ : Heap} (k : Nat) {news X : List (Addr × Obj)} (S : StW G h₀ L m Y ρ σ s.heap news X) {x dx : Addr} {h' : Heap} (F' : Fr h₀ L h' m) (N' : News h₀ L h' ((x, instObj (G.cA k) dx) :: (dx, dictOf [] 0) :: (news ++ X)))
    (hb : ∀ p ∈ news ++ X, p.1 < dx) (hx : dx < x) : St G h₀ L m Y (ρ ++ [dx, x]) ⟨(σ.nxt + 1, .inst k σ.nxt) :: (σ.nxt, .dct []) :: σ.led, σ.nxt + 2⟩ h' := by
  have e1 : (ρ ++ [dx, x])[σ.nxt]? = some dx := by rw [← S.len]; simp
  have e2 : (ρ ++ [dx, x])[σ.nxt + 1]? = some x := by rw [← S.len]; simp
  have pre : ρ <+: ρ ++ [dx, x] := ⟨_, rfl⟩
  refine ⟨(x, instObj (G.cA k) dx) :: (dx, dictOf [] 0) :: news, X, ⟨by simp [S.len], F', N', ?_, ?_, S.X⟩⟩
  · rw [List.cons_append, List.cons_append, List.map_cons, List.map_cons]
    refine List.nodup_cons.mpr ⟨fun hm => ?_, List.nodup_cons.mpr ⟨fun hm => ?_, S.nd⟩⟩
    · rcases List.mem_cons.mp hm with q | hm
      · have q : x = dx := q
        rw [q] at hx
        exact Nat.lt_irrefl _ hx
      · obtain ⟨p, hp, e⟩ := List.mem_map.mp hm
        have e : p.1 = x := e
        have h2 := hb p hp
        rw [e] at h2
        exact Nat.lt_asymm h2 hx
    · obtain ⟨p, hp, e⟩ := List.mem_map.mp hm
      have e : p.1 = dx := e
      have h2 := hb p hp
      rw [e] at h2
      exact Nat.lt_irrefl _ h2
  · exact .cons ⟨e2, .inst e1⟩ (.cons ⟨e1, .dct 0 .nil⟩ (S.R.mono pre))
theorem isSym1_eq {as : List AV} (h : isSym1 as = true) : as = [.sym 1] := by
  unfold isSym1 at h
  split at h
  · rfl
  · cases h
theorem callV_sound (Sa : Sta W) (Fg : FigOk W) (So : Sound W ih) (c : Cx W L Y fi env A fr) (S : St W.G W.h₀ L m Y ρ σ s.heap) {f : AV} {fv : Value} {as : List AV} {xs : List Value} (hf : VR W.G ρ f fv) (ha : VRs W.G ρ as xs)
    (h : PostO W.G W.C fr W.h₀ L m Y (VR W.G) ρ (callV W.tb ih fi f as σ) Q E s) : wpAny (model W.prog W.w) A (call fv xs) Q E s := by
  cases f with
  | fn k =>
    cases hf
    unfold callV at h
    cases hc : fi.cc with
    | zero => rw [hc] at h; exact h.elim
    | succ n =>
      rw [hc] at h
      have C := c.cc (c := n) (by omega)
      have h : PostO W.G W.C fr W.h₀ L m Y (VR W.G) ρ (bif Nat.beq k W.tb.fFig then (bif W.tb.fig && isSym1 as then .ok (.int W.tb.D) σ else .stuck) else ih.cl n k as σ) Q E s := h
      cases z : Nat.beq k W.tb.fFig with
      | true =>
        rw [z] at h
        have := Nat.eq_of_beq_eq_true z
        subst this
        simp only [cond_true] at h
        cases zs : W.tb.fig && isSym1 as with
        | false => rw [zs] at h; exact h.elim
        | true =>
          rw [zs] at h
          have hD : PostO W.G W.C fr W.h₀ L m Y (VR W.G) ρ (.ok (.int W.tb.D) σ) Q E s := h
          rw [Sa.fit.dd] at hD
          obtain ⟨zg, zs⟩ := Bool.and_eq_true_iff.mp zs
          obtain rfl := isSym1_eq zs
          cases ha with | cons r1 r2 =>
          cases r2
          cases r1 with | sym _ t =>
          refine wpAny_call (Fg zg C.zero S fun h' tk t' S' => ?_)
          exact hD ρ _ h' tk (List.prefix_refl _) S' (.int _ t')
      | false =>
        rw [z] at h
        exact wpAny_call (So.cl C S ha h)
  | cls k =>
    cases hf
    unfold callV at h
    cases hc : fi.cc with
    | zero => rw [hc] at h; exact h.elim
    | succ n =>
      rw [hc] at h
      have h : PostO W.G W.C fr W.h₀ L m Y (VR W.G) ρ (match aget W.tb.clsT k with
        | some R => (ih.cl n R.init (.ref (σ.nxt + 1) :: as) ⟨(σ.nxt + 1, .inst k σ.nxt) :: (σ.nxt, .dct []) :: σ.led, σ.nxt + 2⟩).bind fun r σ' => match r with | .none => .ok (.ref (σ.nxt + 1)) σ' | _ => .stuck
        | none => .stuck) Q E s := h
      cases z : aget W.tb.clsT k with
      | none => rw [z] at h; exact h.elim
      | some R =>
        rw [z] at h
        have h : PostO W.G W.C fr W.h₀ L m Y (VR W.G) ρ ((ih.cl n R.init (.ref (σ.nxt + 1) :: as) ⟨(σ.nxt + 1, .inst k σ.nxt) :: (σ.nxt, .dct []) :: σ.led, σ.nxt + 2⟩).bind fun r σ' => match r with | .none => .ok (.ref (σ.nxt + 1)) σ' | _ => .stuck) Q E s := h
        have K := Sa.cls k R z
        obtain ⟨news, X, S⟩ := S
        refine call_cls S.F Sa.X₀ S.N K.make K.init K.initF fun x dx h' F' N' hb hx => ?_
        have S' := new_inst (C := W.C) k S F' N' hb hx
        have pre : ρ <+: ρ ++ [dx, x] := ⟨_, rfl⟩
        have e2 : (ρ ++ [dx, x])[σ.nxt + 1]? = some x := by rw [← S.len]; simp
        refine So.cl (c.ccU (c := n) (by omega)) S' (.cons (.ref e2) (VRs.mono pre ha)) (PostO.bind' (PostO.shift h pre h' s.toks) fun a σ' ρ' v s' _ p S'' r hh => ?_)
        cases a with
        | none =>
          cases r
          exact ⟨rfl, hh.val' S'' (.ref (pre_get p e2))⟩
        | _ => exact hh.elim
  | bi k =>
    cases hf
    exact callBi_sound Sa.fit c.hd S ha h
  | _ => exact h.elim
end
end Mine
end

section
set_option maxRecDepth 100000
namespace Mine
open PySem PySem.W PyProof.Rows PySem.Calls PySem.SeqAt
section
variable {W : Wd} {L : Addr} {Y : List (Addr × Obj)} {fi : FI} {env : Env} {A : Around} {fr : List Env} {m : PySem.Str → Option Value} {l : Loc} {σ : Sig} {ρ : List Addr} {s : Shared} {E : Value → Shared → Prop} {ih : Itp} {G : Mn}
  {Q : Value → Shared → Prop}
theorem base_plain {M : Model} {o : Expr} {attr : PySem.Str} {whole : Sem Value} (hn : ∀ id p q, o = .Call (.Name id p) [] [] q → id ≠ "super") (h : wpAny M A whole Q E s) : wpAny M A (attributeBase o attr env whole) Q E s := by
  unfold attributeBase
  split
  · rename_i id p q
    have e : (id != "super" || attr == "__class__" || env.kindOf "super" != some .globalImplicit || env.kindOf "__class__" != some .free) = true := by
      have : (id != ("super" : PySem.Str)) = true := bne_iff_ne.mpr (hn id p q rfl)
      rw [this]; rfl
    simp only [e, if_true]
    exact h
  · exact h
theorem noSuper (Sa : Sta W) (e : PE) : ∀ id p q, toE W.G.nm e = .Call (.Name id p) [] [] q → id ≠ "super" := by
  intro id p q h
  cases e with
  | call f as pp =>
    simp only [toE] at h
    injection h with h1 h2 h3 h4
    cases f with
    | loc x xp => simp only [toE] at h1; injection h1 with h1 _; rw [← h1]; exact Sa.ns x
    | glb x xp => simp only [toE] at h1; injection h1 with h1 _; rw [← h1]; exact Sa.ns x
    | cel x xp => simp only [toE] at h1; injection h1 with h1 _; rw [← h1]; exact Sa.ns x
    | _ => simp only [toE] at h1; cases h1
  | mcall o n np as pp =>
    simp only [toE] at h
    injection h with h1 h2 h3 h4
    cases h1
  | _ => simp only [toE] at h; cases h
theorem toEs_len (nm : Nat → PySem.Str) : ∀ es : PEs, (toEs nm es).length = lenPs es
  | .nil => rfl
  | .cons e r => by
    show (toEs nm r).length + 1 = _
    rw [toEs_len nm r]; rfl
theorem all_plain (env : Env) (es : List Expr) : ((es.map fun e => (false, eval e env)).all (fun q => !q.1)) = true := by
  induction es with
  | nil => rfl
  | cons e r ih => rw [List.map_cons, List.all_cons, ih]; rfl
theorem mcall_rule (Sa : Sta W) {o : PE} {name : PySem.Str} {np p : Pos} {as : PEs} (hc : (Nat.blt (lenPs as) 30 && Nat.beq np.endLine p.line) = true)
    (h : ∀ pl, wpAny (model W.prog W.w) A (eval (toE W.G.nm o) env) (fun ov s₁ => wpAny (model W.prog W.w) A (getMethod ov name pl) (fun fx s₂ => wpAny (model W.prog W.w) A (callWith p fx.1 fx.2 ((toEs W.G.nm as).map fun e => (false, eval e env)) []) Q E s₂) E s₁) E s) :
    wpAny (model W.prog W.w) A (eval (.Call (.Attribute (toE W.G.nm o) name np) (toEs W.G.nm as) [] p) env) Q E s := by
  obtain ⟨c1, c2⟩ := and3 hc
  have c1 : lenPs as < 30 := Nat.le_of_ble_eq_true c1
  have c2 := Nat.eq_of_beq_eq_true c2
  rw [arm_eval_Call, starEach_plain]
  refine wpAny_bind (base_plain (noSuper Sa o) (wpAny_mono (h (do return (← importBound (toE W.G.nm o) env).getD true)) (fun ov s₁ h₁ => wpAny_bind (wpAny_standAt ?_)) fun _ _ x => x))
  have few : methodCallForm ((toEs W.G.nm as).length + ([] : List Keyword).length) ((toEs W.G.nm as).map fun e => (false, eval e env)) (backToKw p (keywordEach [] env)) = true := by
    unfold methodCallForm
    rw [all_plain, toEs_len]
    show (true && true && decide (lenPs as + 0 + 0 < 30)) = true
    simp only [Nat.add_zero, decide_eq_true c1]; rfl
  have e2 : (np.endLine == p.line) = true := by rw [c2]; exact beq_self_eq_true _
  unfold methodCall
  rw [few]
  refine wpAny_bind (wpAny_holding ?_)
  unfold calleeOf
  rw [if_pos rfl]
  refine wpAny_mono h₁ (fun fx s₂ h₂ => ?_) fun _ _ x => x
  have e3 : methodCallPos true (toE W.G.nm o) env np p = pure p := by
    unfold methodCallPos
    rw [e2]; rfl
  show wpAny _ _ (methodCallPos true (toE W.G.nm o) env np p >>= _) _ _ _
  rw [e3]
  exact wpAny_bind (wpAny_pure h₂)
theorem methOf_inv {tb : Tb} {i n k : Nat} (h : methOf tb σ i n = some k) : ∃ c d R es, look σ i = some (.inst c d) ∧ aget tb.clsT c = some R ∧ look σ d = some (.dct es) ∧ aget es n = none ∧ aget R.meths n = some k := by
  unfold methOf at h
  split at h
  · rename_i c d z
    split at h
    · rename_i R es hR u
      split at h
      · rename_i w
        exact ⟨c, d, R, es, z, hR, u, w, h⟩
      · cases h
    · cases h
  · cases h
theorem isL_inv {i : Nat} (h : isL σ i = true) : ∃ xs, look σ i = some (.lst xs) := by
  unfold isL at h
  split at h
  · exact ⟨_, by assumption⟩
  · cases h
theorem St.KIn (Sa : Sta W) (S : St W.G W.h₀ L m Y ρ σ s.heap) : W.K.In s.heap := by
  obtain ⟨_, _, S⟩ := S
  exact Sa.X₀.keeps S.F.keep
theorem mcallV_sound (Sa : Sta W) (So : Sound W ih) (c : Cx W L Y fi env A fr) (S : St W.G W.h₀ L m Y ρ σ s.heap) (hl : LR W.G env ρ l m) {x : AV} {xv : Value} {as : PEs} {n : Nat} {pl : Sem Bool} {pos : Pos} (hx : VR W.G ρ x xv)
    (h : PostO W.G W.C fr W.h₀ L m Y (VR W.G) ρ (mcallV W.tb ih fi l as x n σ) Q E s) :
    wpAny (model W.prog W.w) A (getMethod xv (W.G.nm n) pl) (fun fx s₂ => wpAny (model W.prog W.w) A (callWith pos fx.1 fx.2 ((toEs W.G.nm as).map fun e => (false, eval e env)) []) Q E s₂) E s := by
  cases x with
  | ref i =>
    cases hx with | @ref _ p hp =>
    cases z : methOf W.tb σ i n with
    | some k =>
      have h : PostO W.G W.C fr W.h₀ L m Y (VR W.G) ρ (match fi.cc with | 0 => .stuck | c + 1 => (ih.evs fi l as σ).bind fun vs σ => ih.cl c k (.ref i :: vs) σ) Q E s := by
        have e : mcallV W.tb ih fi l as (.ref i) n σ = (match fi.cc with | 0 => .stuck | c + 1 => (ih.evs fi l as σ).bind fun vs σ => ih.cl c k (.ref i :: vs) σ) := by
          unfold mcallV
          simp only [z]
          try rfl
        rw [← e]; exact h
      cases hc : fi.cc with
      | zero => rw [hc] at h; exact h.elim
      | succ b =>
        rw [hc] at h
        obtain ⟨C, d, R, es, i1, i2, i3, i4, i5⟩ := methOf_inv z
        obtain ⟨dx, xs, k', hd, _, _, r, I⟩ := inst_at S hp i1 i3
        have K := Sa.cls C R i2
        obtain ⟨m1, m2, m3⟩ := K.meth n k i5
        have F : Fr W.h₀ L s.heap m := by obtain ⟨_, _, S⟩ := S; exact S.F
        refine method_inst F Sa.X₀ I K.get m1 m2 (ent_none r i4) ?_
        refine callWith_k m3 ?_
        refine So.evs c S hl (PostO.bind' h fun vs σ' ρ' ys s' _ pre S' rv hh => ⟨St.KIn Sa S', ?_⟩)
        exact wpAny_call (So.cl (c.cc (c := b) (by omega)) S' (.cons (.ref (pre_get pre hp)) rv) hh)
    | none =>
      have h : PostO W.G W.C fr W.h₀ L m Y (VR W.G) ρ (bif isL σ i && Nat.beq n W.tb.nAppend then (ih.evs fi l as σ).bind fun vs σ => lstM i vs σ else .stuck) Q E s := by
        have e : mcallV W.tb ih fi l as (.ref i) n σ = (bif isL σ i && Nat.beq n W.tb.nAppend then (ih.evs fi l as σ).bind fun vs σ => lstM i vs σ else .stuck) := by
          unfold mcallV
          simp only [z]
        rw [← e]; exact h
      cases zl : (isL σ i && Nat.beq n W.tb.nAppend) with
      | false => rw [zl] at h; exact h.elim
      | true =>
        rw [zl] at h
        obtain ⟨zl, zn⟩ := and3 zl
        have zn := Nat.eq_of_beq_eq_true zn
        obtain ⟨vs, u⟩ := isL_inv zl
        obtain ⟨us, it, hv, k, hg⟩ := at_lst S u hp
        rw [zn, Sa.fit.nAppend]
        refine getMethod_list_append hg rfl rfl ?_
        refine callWith_b ?_
        exact So.evs c S hl (PostO.bind' h fun vs σ' ρ' ys s' _ pre S' rv hh => lstM_sound S' (pre_get pre hp) rv hh)
  | str t =>
    cases hx with | str _ k =>
    exact strM_sound Sa h fun Q' h' => So.evs c S hl h'
  | _ => exact h.elim
theorem sl1_inv {C : Addr} {h₀ : Heap} {x y : AV} (h : PostO G C fr h₀ L m Y (VR G) ρ (sl1V σ x y) Q E s) : ∃ (i k : Nat) (vs : List AV), x = .ref i ∧ y = .int k ∧ look σ i = some (.tup vs) ∧ (small vs.length && Nat.ble 1 k && Nat.ble k vs.length) = true ∧
    PostO G C fr h₀ L m Y (VR G) ρ (.ok (.ref (Mine.alloc σ (.tup (vs.drop k))).1) (Mine.alloc σ (.tup (vs.drop k))).2) Q E s := by
  unfold sl1V at h
  split at h
  · rename_i i k
    split at h
    · rename_i vs z
      cases hc : (small vs.length && Nat.ble 1 k && Nat.ble k vs.length) with
      | false => rw [hc] at h; exact h.elim
      | true => rw [hc] at h; exact ⟨i, k, vs, rfl, rfl, z, hc, h⟩
    · exact h.elim
  · exact h.elim
theorem sl2_inv {C : Addr} {h₀ : Heap} {x y z : AV} (h : PostO G C fr h₀ L m Y (VR G) ρ (sl2V σ x y z) Q E s) : ∃ (t : List Nat) (k n : Nat), x = .str t ∧ y = .int k ∧ z = .int n ∧ (small t.length && Nat.ble k n && Nat.ble k t.length) = true ∧
    PostO G C fr h₀ L m Y (VR G) ρ (.ok (.str (cut t k n)) σ) Q E s := by
  unfold sl2V at h
  split at h
  · rename_i t k n
    cases hc : (small t.length && Nat.ble k n && Nat.ble k t.length) with
    | false => rw [hc] at h; exact h.elim
    | true => rw [hc] at h; exact ⟨t, k, n, rfl, rfl, rfl, hc, h⟩
  · exact h.elim
theorem noMarks (nm : Nat → PySem.Str) (op : CmpOp) (e : PE) : behindInMarks op (toE nm e) = false := by cases e <;> rfl
theorem cmpS_sound (Sa : Sta W) (S : St W.G W.h₀ L m Y ρ σ s.heap) {op : CmpOp} {a b : AV} {x y : Value} (ha : VR W.G ρ a x) (hb : VR W.G ρ b y) (hu : A.units + 64 < cLine) {r : Bool} (h : cmpS W.tb σ a op b = some r) (q : Q (.bool r) s) :
    wpAny (model W.prog W.w) A (compareOp op x y) Q E s := by
  unfold cmpS at h
  split at h
  · rename_i k
    cases ha with | sym _ t =>
    cases hb with | int _ u =>
    cases z : decide (k = 0) with
    | false => rw [z] at h; cases h
    | true =>
      rw [z] at h
      have := of_decide_eq_true z
      subst this
      have h : W.tb.neg = r := Option.some.inj h
      exact lt_int (by rw [← Sa.fit.neg, h]; exact q)
  · exact cmpv_sound S ha hb hu h q
theorem unV_sound {C : Addr} {h₀ : Heap} (S : St G h₀ L m Y ρ σ s.heap) {op : UnaryOp} {a : AV} {x : Value} (ha : VR G ρ a x) (h : PostO G C fr h₀ L m Y (VR G) ρ (unV op a σ) Q E s) :
    wpAny (model W.prog W.w) A (unaryOp op x) Q E s := by
  unfold unV at h
  split at h
  · cases ha
    exact not_of (wpAny_truthy_bool (h.val' S (.bool _)))
  · cases ha
    exact neg_int (h.val S (.int _ _) _)
  · exact h.elim
theorem call_step (Sa : Sta W) (Fg : FigOk W) (So : Sound W ih) (c : Cx W L Y fi env A fr) {pos : Pos} {as : PEs} {g : AV} {gv : Value} (r : VR W.G ρ g gv) (S : St W.G W.h₀ L m Y ρ σ s.heap) (hl : LR W.G env ρ l m)
    (h : PostO W.G W.C fr W.h₀ L m Y (VR W.G) ρ (bif isCall g then (ih.evs fi l as σ).bind fun vs σ => callV W.tb ih fi g vs σ else .stuck) Q E s) :
    wpAny (model W.prog W.w) A (callWith pos gv [] ((toEs W.G.nm as).map fun e => (false, eval e env)) []) Q E s := by
  cases z : isCall g with
  | false => rw [z] at h; exact h.elim
  | true =>
    rw [z] at h
    have h : PostO W.G W.C fr W.h₀ L m Y (VR W.G) ρ ((ih.evs fi l as σ).bind fun vs σ => callV W.tb ih fi g vs σ) Q E s := h
    cases g with
    | fn k =>
      cases r
      exact callWith_k (Sa.fnk k) (So.evs c S hl (PostO.bind' h fun vs σ' ρ' ys s' _ pre S' rv hh => ⟨St.KIn Sa S', callV_sound Sa Fg So c S' (.fn k) rv hh⟩))
    | cls k =>
      cases r
      exact callWith_k (Sa.clk k) (So.evs c S hl (PostO.bind' h fun vs σ' ρ' ys s' _ pre S' rv hh => ⟨St.KIn Sa S', callV_sound Sa Fg So c S' (.cls k) rv hh⟩))
    | bi k =>
      cases r
      rcases Sa.bik k with ⟨id, e⟩ | ⟨T, e⟩
      · rw [e]
        refine callWith_b (So.evs c S hl (PostO.bind' h fun vs σ' ρ' ys s' _ pre S' rv hh => ?_))
        have := callV_sound Sa Fg So c S' (.bi k) rv hh
        rw [e] at this
        exact this
      · rw [e]
        refine callWith_t (So.evs c S hl (PostO.bind' h fun vs σ' ρ' ys s' _ pre S' rv hh => ?_))
        have := callV_sound Sa Fg So c S' (.bi k) rv hh
        rw [e] at this
        exact this
    | _ => cases z
theorem ev_step (Sa : Sta W) (Fg : FigOk W) (So : Sound W ih) (hcomp : ∀ {elt ts tp it ifs sc p}, PostO W.G W.C fr W.h₀ L m Y (VR W.G) ρ ((step W.tb ih).ev fi l (.comp elt ts tp it ifs sc p) σ) Q E s → wpAny (model W.prog W.w) A (eval (toE W.G.nm (.comp elt ts tp it ifs sc p)) env) Q E s)
    (c : Cx W L Y fi env A fr) (S : St W.G W.h₀ L m Y ρ σ s.heap) (hl : LR W.G env ρ l m) {e : PE}
    (h : PostO W.G W.C fr W.h₀ L m Y (VR W.G) ρ ((step W.tb ih).ev fi l e σ) Q E s) : wpAny (model W.prog W.w) A (eval (toE W.G.nm e) env) Q E s := by
  cases e with
  | loc x p => exact ev_loc Sa c S hl h
  | glb x p => exact ev_glb Sa c S h
  | cel x p => exact ev_cel Sa c S h
  | cst k p => exact ev_cst S h
  | tup es p =>
    refine Tuple_ ?_
    rw [starEach_plain]
    refine So.evs c S hl (PostO.bind' h fun vs σ' ρ' xs s' _ pre S' rv hh => ?_)
    cases z : small vs.length with
    | false => rw [z] at hh; exact hh.elim
    | true => rw [z] at hh; exact tup_sound S' rv (small_le z) hh
  | lst es p =>
    refine List_ ?_
    rw [starEach_plain]
    refine So.evs c S hl (PostO.bind' h fun vs σ' ρ' xs s' _ pre S' rv hh => ?_)
    cases z : small vs.length with
    | false => rw [z] at hh; exact hh.elim
    | true => rw [z] at hh; exact lst_sound S' rv (small_le z) hh
  | bin op a b p =>
    exact wpAny_BinOp (So.ev c S hl (PostO.bind' h fun x σ1 ρ1 xv s1 _ p1 S1 r1 h1 => So.ev c S1 (hl.mono p1) (PostO.bind' h1 fun y σ2 ρ2 yv s2 _ p2 S2 r2 h2 => binv_sound S2 (r1.mono p2) r2 h2)))
  | un op a p =>
    exact UnaryOp_ (So.ev c S hl (PostO.bind' h fun x σ1 ρ1 xv s1 _ p1 S1 r1 h1 => unV_sound S1 r1 h1))
  | bop op es p =>
    cases es with
    | nil => exact h.elim
    | cons e r =>
      cases r with
      | nil => exact BoolOp_one (So.ev c S hl h)
      | cons e' r =>
        cases op with
        | And =>
          refine BoolOp_and (So.ev c S hl (PostO.bind' h fun x σ1 ρ1 xv s1 _ p1 S1 r1 h1 => ?_))
          cases x with
          | bool b =>
            cases r1
            refine wpAny_truthy_bool ?_
            cases b with
            | true => exact So.ev c S1 (hl.mono p1) h1
            | false => exact h1.val' S1 (.bool false)
          | _ => exact h1.elim
        | Or =>
          refine BoolOp_or (So.ev c S hl (PostO.bind' h fun x σ1 ρ1 xv s1 _ p1 S1 r1 h1 => ?_))
          cases x with
          | bool b =>
            cases r1
            refine wpAny_truthy_bool ?_
            cases b with
            | true => exact h1.val' S1 (.bool true)
            | false => exact So.ev c S1 (hl.mono p1) h1
          | _ => exact h1.elim
  | cmp a op b p =>
    refine wpAny_Compare1 (So.ev c S hl (PostO.bind' h fun x σ1 ρ1 xv s1 _ p1 S1 r1 h1 => So.ev c S1 (hl.mono p1) (PostO.bind' h1 fun y σ2 ρ2 yv s2 _ p2 S2 r2 h2 => ?_))) (noMarks _ _ _)
    cases z : cmpS W.tb σ2 x op y with
    | none => rw [z] at h2; exact h2.elim
    | some r =>
      rw [z] at h2
      exact cmpS_sound Sa S2 (r1.mono p2) r2 (by have := c.un; omega) z (h2.val' S2 (.bool r))
  | cmp2 a o1 b o2 d p => exact h.elim
  | ife t a b p =>
    refine IfExp_ (So.tr c S hl (PostO.bind' h fun x σ1 ρ1 xv s1 _ p1 S1 r1 h1 => ?_))
    subst r1
    cases x with
    | true => exact So.ev c S1 (hl.mono p1) h1
    | false => exact So.ev c S1 (hl.mono p1) h1
  | call f as p =>
    cases f with
    | loc x xp => exact Call_Name (starEach_plain _ _ _ _) (So.ev (e := .loc x xp) c S hl (PostO.bind' h fun g σ1 ρ1 gv s1 _ p1 S1 r1 h1 => call_step Sa Fg So c r1 S1 (hl.mono p1) h1))
    | glb x xp => exact Call_Name (starEach_plain _ _ _ _) (So.ev (e := .glb x xp) c S hl (PostO.bind' h fun g σ1 ρ1 gv s1 _ p1 S1 r1 h1 => call_step Sa Fg So c r1 S1 (hl.mono p1) h1))
    | _ => exact h.elim
  | mcall o n np as p =>
    have h : PostO W.G W.C fr W.h₀ L m Y (VR W.G) ρ (bif Nat.blt (lenPs as) 30 && Nat.beq np.endLine p.line then (ih.ev fi l o σ).bind fun x σ => mcallV W.tb ih fi l as x n σ else .stuck) Q E s := h
    cases z : (Nat.blt (lenPs as) 30 && Nat.beq np.endLine p.line) with
    | false => rw [z] at h; exact h.elim
    | true =>
      rw [z] at h
      exact mcall_rule Sa z fun pl => So.ev c S hl (PostO.bind' h fun x σ1 ρ1 xv s1 _ p1 S1 r1 h1 => mcallV_sound Sa So c S1 (hl.mono p1) r1 h1)
  | att o n p =>
    cases o with
    | loc x xp =>
      refine Attribute_name (So.ev (e := .loc x xp) c S hl (PostO.bind' h fun x σ1 ρ1 xv s1 _ p1 S1 r1 h1 => ?_))
      cases x with
      | ref i =>
        cases r1 with | @ref _ p hp =>
        obtain ⟨v, hv, h2⟩ := PostO.of_some h1
        exact att_sound Sa S1 hp hv fun val rv => h2.val S1 rv _
      | _ => exact h1.elim
    | _ => exact h.elim
  | sub o i p =>
    exact Subscript_ (So.ev c S hl (PostO.bind' h fun x σ1 ρ1 xv s1 _ p1 S1 r1 h1 => So.ev c S1 (hl.mono p1) (PostO.bind' h1 fun y σ2 ρ2 yv s2 _ p2 S2 r2 h2 => subv_sound S2 (r1.mono p2) r2 h2)))
  | sl1 o a sp p =>
    cases o with
    | loc x xp =>
      refine Subscript_ (So.ev (e := .loc x xp) c S hl (PostO.bind' h fun x σ1 ρ1 xv s1 e1 p1 S1 r1 h1 => ?_))
      refine wpAny_Slice ?_
      refine evalPart_some_step (So.ev c S1 (hl.mono p1) (PostO.bind' h1 fun y σ2 ρ2 yv s2 e2 p2 S2 r2 h2 => evalPart_none_step (evalPart_none_step ?_)))
      have h2 : PostO W.G W.C fr W.h₀ L m Y (VR W.G) ρ2 (sl1V σ2 x y) Q E s2 := h2
      obtain ⟨i, k, vs, rfl, rfl, z, hc, h3⟩ := sl1_inv h2
      cases r1 with | @ref _ p hp =>
      cases r2 with | int _ u =>
      exact sl1_sound S2 (pre_get p2 hp) z hc h3
    | _ => exact h.elim
  | sl2 o a b sp p =>
    cases o with
    | loc x xp =>
      refine Subscript_ (So.ev (e := .loc x xp) c S hl (PostO.bind' h fun x σ1 ρ1 xv s1 e1 p1 S1 r1 h1 => ?_))
      refine wpAny_Slice ?_
      refine evalPart_some_step (So.ev c S1 (hl.mono p1) (PostO.bind' h1 fun y σ2 ρ2 yv s2 e2 p2 S2 r2 h2 => ?_))
      refine evalPart_some_step (So.ev c S2 ((hl.mono p1).mono p2) (PostO.bind' h2 fun z σ3 ρ3 zv s3 e3 p3 S3 r3 h3 => evalPart_none_step ?_))
      have h3 : PostO W.G W.C fr W.h₀ L m Y (VR W.G) ρ3 (sl2V σ3 x y z) Q E s3 := h3
      obtain ⟨t, k, n, rfl, rfl, rfl, hc, h4⟩ := sl2_inv h3
      cases r1 with | str _ tt =>
      cases r2 with | int _ u =>
      cases r3 with | int _ u' =>
      exact sl2_sound S3 hc h4
    | _ => exact h.elim
  | comp elt ts tp it ifs sc p => exact hcomp h
end
end Mine
end

section
set_option maxRecDepth 100000
namespace Mine
open PySem PySem.W PyProof.Rows PySem.Calls
section
variable {G : Mn} {h₀ h h' : Heap} {L L' : Addr} {m m' : PySem.Str → Option Value} {Y Y' : List (Addr × Obj)} {ρ : List Addr} {σ : Sig} {a b : Addr} {o o' : Obj}
theorem All2.refl {α : Type} {R : α → α → Prop} (h : ∀ a, R a a) : ∀ l : List α, All2 R l l
  | [] => .nil
  | a :: r => .cons (h a) (All2.refl h r)
/-- objects of a frame -/
structure NsOb (o : Obj) (m : PySem.Str → Option Value) : Prop where
  dt : ∃ es ep, o.data = .dict es ep ∧ StrKeys es ∧ ∀ name, nsFind es name = m name
theorem NsOb.of (n : h.Ns L m) : ∃ o, h.get? L = some o ∧ NsOb o m := by
  obtain ⟨o, es, ep, ho, r⟩ := n
  exact ⟨o, ho, ⟨es, ep, r⟩⟩
theorem NsOb.ns (n : NsOb o m) (e : h.get? L = some o) : h.Ns L m := by
  obtain ⟨es, ep, r⟩ := n.dt
  exact ⟨o, es, ep, e, r⟩
theorem NsOb.isDict (n : NsOb o m) : ∃ es ep, o.data = .dict es ep := by
  obtain ⟨es, ep, e, _⟩ := n.dt
  exact ⟨es, ep, e⟩
theorem XR.mem {Y X : List (Addr × Obj)} (x : XR Y X) (h : (a, o) ∈ Y) : ∃ o', (a, o') ∈ X ∧ (o' = o ∨ Slotty o ∧ ∃ sl, o' = { o with slots := sl }) := by
  induction x with
  | nil => cases h
  | @cons y x ys xs r _ ih =>
    rcases List.mem_cons.mp h with e | h
    · refine ⟨x.2, ?_, ?_⟩
      · have : x = (a, x.2) := by rw [← e] at r; exact Prod.ext r.1 rfl
        rw [← this]; exact .head _
      · have e2 : y.2 = o := by rw [← e]
        rw [← e2]; exact r.2
    · obtain ⟨o', h1, h2⟩ := ih h
      exact ⟨o', .tail _ h1, h2⟩
/-- another object beside the frame, looked at by name -/
theorem St.mem (S : St G h₀ L m Y ρ σ h) (hm : (a, o) ∈ Y) : ∃ o', h.get? a = some o' ∧ (o' = o ∨ Slotty o ∧ ∃ sl, o' = { o with slots := sl }) ∧ a ≠ L ∧ h₀.get? a = none := by
  obtain ⟨news, X, S⟩ := S
  obtain ⟨o', h1, h2⟩ := S.X.mem hm
  obtain ⟨n1, n2, n3⟩ := S.N _ (List.mem_append_right _ h1)
  exact ⟨o', n1, h2, n2, n3⟩
/-- a new frame, over the old one -/
theorem St.enter (S : St G h₀ L m Y ρ σ h) (n : h'.Ns L' m') (hL : h.objs.size ≤ L') (k : ∀ b o, h.get? b = some o → h'.get? b = some o) :
    ∃ oL, NsOb oL m ∧ St G h₀ L' m' ((L, oL) :: Y) ρ σ h' := by
  obtain ⟨news, X, S⟩ := S
  obtain ⟨oL, hoL, nL⟩ := NsOb.of S.F.ns
  refine ⟨oL, nL, news, (L, oL) :: X, ⟨S.len, ⟨n, fun b o e => k b o (S.F.keep b o e), Nat.le_trans (Nat.le_trans S.F.above (Nat.le_of_lt S.F.ns.lt)) hL⟩, ?_, ?_, S.R, .cons ⟨rfl, .inl rfl⟩ S.X⟩⟩
  · intro p hp
    have old : ∀ p ∈ news ++ X, h'.get? p.1 = some p.2 ∧ p.1 ≠ L' ∧ h₀.get? p.1 = none := fun p hp =>
      ⟨k _ _ (S.N p hp).1, Nat.ne_of_lt (Nat.lt_of_lt_of_le (Heap.lt_size (S.N p hp).1) hL), (S.N p hp).2.2⟩
    rcases List.mem_append.mp hp with hp | hp
    · exact old p (List.mem_append_left _ hp)
    · rcases List.mem_cons.mp hp with rfl | hp
      · refine ⟨k _ _ hoL, Nat.ne_of_lt (Nat.lt_of_lt_of_le (Heap.lt_size hoL) hL), ?_⟩
        cases q : h₀.get? L with
        | none => rfl
        | some o => exact absurd (Nat.lt_of_lt_of_le (Heap.lt_size q) S.F.above) (Nat.lt_irrefl _)
      · exact old p (List.mem_append_right _ hp)
  · have nd := S.nd
    have hnL : L ∉ (news ++ X).map (·.1) := fun q => by
      obtain ⟨p, hp, e⟩ := List.mem_map.mp q
      exact (S.N p hp).2.1 e
    have pm : ((news ++ (L, oL) :: X).map (·.1)).Perm ((L :: (news ++ X).map (·.1))) := by
      simpa using List.perm_middle (l₁ := news.map (·.1)) (l₂ := X.map (·.1)) (a := L)
    exact (pm.nodup_iff).mpr (List.nodup_cons.mpr ⟨hnL, nd⟩)
/-- back to the old one -/
theorem StW.leave {oL : Obj} {news X : List (Addr × Obj)} (S : StW G h₀ L' m' ((L, oL) :: Y) ρ σ h news X) (nL : NsOb oL m) (hab : h₀.objs.size ≤ L) : ∃ X', StW G h₀ L m Y ρ σ h news X' ∧ (∀ p ∈ news ++ X', p.1 ≠ L') ∧ L ≠ L' ∧ ∀ p ∈ X', p ∈ X := by
  have hX := S.X
  cases hX with
  | @cons _ x _ X r rs =>
    obtain ⟨a, o⟩ := x
    obtain ⟨r1, r2⟩ := r
    have r1 : a = L := r1
    subst r1
    have N := S.N (a, o) (List.mem_append_right _ (.head _))
    have nd := S.nd
    have pm : ((news ++ (a, o) :: X).map (·.1)).Perm ((a :: (news ++ X).map (·.1))) := by
      simpa using List.perm_middle (l₁ := news.map (·.1)) (l₂ := X.map (·.1)) (a := a)
    have nd := List.nodup_cons.mp ((pm.nodup_iff).mp nd)
    have no : NsOb o m := by
      rcases r2 with r2 | ⟨_, sl, r2⟩
      · have r2 : o = oL := r2
        rw [r2]; exact nL
      · have r2 : o = { oL with slots := sl } := r2
        rw [r2]; exact ⟨nL.dt⟩
    have inc : ∀ p ∈ news ++ X, p ∈ news ++ (a, o) :: X := fun p hp => by
      rcases List.mem_append.mp hp with q | q
      · exact List.mem_append_left _ q
      · exact List.mem_append_right _ (.tail _ q)
    refine ⟨X, ⟨S.len, ⟨no.ns N.1, S.F.keep, hab⟩, fun p hp => ⟨(S.N p (inc p hp)).1, fun q => nd.1 (List.mem_map.mpr ⟨p, hp, q⟩), (S.N p (inc p hp)).2.2⟩, nd.2, S.R, rs⟩, fun p hp => (S.N p (inc p hp)).2.1, N.2.1, fun p hp => .tail _ hp⟩
theorem St.leave {oL : Obj} (S : St G h₀ L' m' ((L, oL) :: Y) ρ σ h) (nL : NsOb oL m) (hab : h₀.objs.size ≤ L) : St G h₀ L m Y ρ σ h := by
  obtain ⟨news, X, S⟩ := S
  obtain ⟨X', S', _⟩ := S.leave nL hab
  exact ⟨news, X', S'⟩
theorem St.leaveBut {oL : Obj} (S : St G h₀ L' m' ((L, oL) :: Y) ρ σ h) (nL : NsOb oL m) (hab : h₀.objs.size ≤ L) (k : ∀ b o, b ≠ L' → h.get? b = some o → h'.get? b = some o) : St G h₀ L m Y ρ σ h' := by
  obtain ⟨news, X, S⟩ := S
  have hL' : h₀.get? L' = none := by
    cases q : h₀.get? L' with
    | none => rfl
    | some o => exact absurd (Nat.lt_of_lt_of_le (Heap.lt_size q) S.F.above) (Nat.lt_irrefl _)
  obtain ⟨X', S', k1, k2, _⟩ := S.leave nL hab
  obtain ⟨oL2, hoL, nL2⟩ := NsOb.of S'.F.ns
  exact ⟨news, X', S'.len, ⟨nL2.ns (k _ _ k2 hoL), fun b o e => k b o (fun q => by rw [q, hL'] at e; cases e) (S'.F.keep b o e), hab⟩, fun p hp => ⟨k _ _ (k1 p hp) (S'.N p hp).1, (S'.N p hp).2⟩, S'.nd, S'.R, S'.X⟩
theorem St.above (S : St G h₀ L m Y ρ σ h) : h₀.objs.size ≤ L := by obtain ⟨_, _, S⟩ := S; exact S.F.above
/-- an object laid beside -/
theorem St.aside (S : St G h₀ L m Y ρ σ h) (o : Obj) (hf : o.isFreed = false) : St G h₀ L m ((h.objs.size, o) :: Y) ρ σ (h.push o) := by
  obtain ⟨news, X, S⟩ := S
  have N' := S.N.push S.F o hf
  refine ⟨news, (h.objs.size, o) :: X, ⟨S.len, S.F.push o, fun p hp => N' p ?_, ?_, S.R, .cons ⟨rfl, .inl rfl⟩ S.X⟩⟩
  · rcases List.mem_append.mp hp with q | q
    · exact .tail _ (List.mem_append_left _ q)
    · rcases List.mem_cons.mp q with rfl | q
      · exact .head _
      · exact .tail _ (List.mem_append_right _ q)
  · have pm : ((news ++ (h.objs.size, o) :: X).map (·.1)).Perm ((h.objs.size :: (news ++ X).map (·.1))) := by
      simpa using List.perm_middle (l₁ := news.map (·.1)) (l₂ := X.map (·.1)) (a := h.objs.size)
    refine (pm.nodup_iff).mpr (List.nodup_cons.mpr ⟨fun q => ?_, S.nd⟩)
    obtain ⟨p, hp, e⟩ := List.mem_map.mp q
    have := Heap.lt_size (S.N p hp).1
    rw [e] at this
    exact Nat.lt_irrefl _ this
/-- the first object beside changes, or is forgotten -/
theorem St.alter (S : St G h₀ L m ((a, o) :: Y) ρ σ h) (k : ∀ b ob, b ≠ a → h.get? b = some ob → h'.get? b = some ob) (e : h'.get? a = some o') : St G h₀ L m ((a, o') :: Y) ρ σ h' := by
  obtain ⟨news, X, S⟩ := S
  have hX := S.X
  cases hX with
  | @cons _ x _ X r rs =>
    obtain ⟨a', q⟩ := x
    obtain ⟨r1, r2⟩ := r
    have r1 : a' = a := r1
    subst r1
    have N := S.N (a', q) (List.mem_append_right _ (.head _))
    have pm : ((news ++ (a', q) :: X).map (·.1)).Perm ((a' :: (news ++ X).map (·.1))) := by
      simpa using List.perm_middle (l₁ := news.map (·.1)) (l₂ := X.map (·.1)) (a := a')
    have nd := List.nodup_cons.mp ((pm.nodup_iff).mp S.nd)
    obtain ⟨oL, hoL, nL⟩ := NsOb.of S.F.ns
    refine ⟨news, (a', o') :: X, ⟨S.len, ⟨nL.ns (k _ _ N.2.1.symm hoL), fun b ob hb => k b ob (fun q => by rw [q, N.2.2] at hb; cases hb) (S.F.keep b ob hb), S.F.above⟩, fun p hp => ?_, ?_, S.R, .cons ⟨rfl, .inl rfl⟩ rs⟩⟩
    · have go : ∀ p ∈ news ++ X, h'.get? p.1 = some p.2 ∧ p.1 ≠ L ∧ h₀.get? p.1 = none := fun p hp => by
        have hp' : p ∈ news ++ (a', q) :: X := by
          rcases List.mem_append.mp hp with z | z
          · exact List.mem_append_left _ z
          · exact List.mem_append_right _ (.tail _ z)
        exact ⟨k _ _ (fun z => nd.1 (List.mem_map.mpr ⟨p, hp, z⟩)) (S.N p hp').1, (S.N p hp').2⟩
      rcases List.mem_append.mp hp with z | z
      · exact go p (List.mem_append_left _ z)
      · rcases List.mem_cons.mp z with rfl | z
        · exact ⟨e, N.2⟩
        · exact go p (List.mem_append_right _ z)
    · have pm' : ((news ++ (a', o') :: X).map (·.1)).Perm ((a' :: (news ++ X).map (·.1))) := by
        simpa using List.perm_middle (l₁ := news.map (·.1)) (l₂ := X.map (·.1)) (a := a')
      exact (pm'.nodup_iff).mpr (List.nodup_cons.mpr nd)
theorem St.forget (S : St G h₀ L m ((a, o) :: Y) ρ σ h) (k : ∀ b ob, b ≠ a → h.get? b = some ob → h'.get? b = some ob) : St G h₀ L m Y ρ σ h' := by
  obtain ⟨news, X, S⟩ := S
  have hX := S.X
  cases hX with
  | @cons _ x _ X r rs =>
    obtain ⟨a', q⟩ := x
    obtain ⟨r1, r2⟩ := r
    have r1 : a' = a := r1
    subst r1
    have N := S.N (a', q) (List.mem_append_right _ (.head _))
    have pm : ((news ++ (a', q) :: X).map (·.1)).Perm ((a' :: (news ++ X).map (·.1))) := by
      simpa using List.perm_middle (l₁ := news.map (·.1)) (l₂ := X.map (·.1)) (a := a')
    have nd := List.nodup_cons.mp ((pm.nodup_iff).mp S.nd)
    obtain ⟨oL, hoL, nL⟩ := NsOb.of S.F.ns
    refine ⟨news, X, ⟨S.len, ⟨nL.ns (k _ _ N.2.1.symm hoL), fun b ob hb => k b ob (fun q => by rw [q, N.2.2] at hb; cases hb) (S.F.keep b ob hb), S.F.above⟩, fun p hp => ?_, nd.2, S.R, rs⟩⟩
    have hp' : p ∈ news ++ (a', q) :: X := by
      rcases List.mem_append.mp hp with z | z
      · exact List.mem_append_left _ z
      · exact List.mem_append_right _ (.tail _ z)
    exact ⟨k _ _ (fun z => nd.1 (List.mem_map.mpr ⟨p, hp, z⟩)) (S.N p hp').1, (S.N p hp').2⟩
theorem St.swap (S : St G h₀ L m ((a, o) :: (b, o') :: Y) ρ σ h) : St G h₀ L m ((b, o') :: (a, o) :: Y) ρ σ h := by
  obtain ⟨news, X, S⟩ := S
  have hX := S.X
  cases hX with
  | @cons _ x _ _ r rs =>
    cases rs with
    | @cons _ y _ X t ts =>
      refine ⟨news, y :: x :: X, ⟨S.len, S.F, fun p hp => S.N p ?_, ?_, S.R, .cons t (.cons r ts)⟩⟩
      · exact ((List.Perm.refl news).append (List.Perm.swap x y X)).mem_iff.mp hp
      · exact ((((List.Perm.refl news).append (List.Perm.swap y x X)).map (·.1)).nodup_iff).mp S.nd
theorem St.swap2 {c : Addr} {o'' : Obj} (S : St G h₀ L m ((a, o) :: (b, o') :: (c, o'') :: Y) ρ σ h) : St G h₀ L m ((a, o) :: (c, o'') :: (b, o') :: Y) ρ σ h := by
  obtain ⟨news, X, S⟩ := S
  have hX := S.X
  cases hX with
  | @cons _ x _ _ r rs =>
    cases rs with
    | @cons _ y _ _ t ts =>
      cases ts with
      | @cons _ z _ X u us =>
        refine ⟨news, x :: z :: y :: X, ⟨S.len, S.F, fun p hp => S.N p ?_, ?_, S.R, .cons r (.cons u (.cons t us))⟩⟩
        · exact ((List.Perm.refl news).append ((List.Perm.swap y z X).cons x)).mem_iff.mp hp
        · exact ((((List.Perm.refl news).append ((List.Perm.swap z y X).cons x)).map (·.1)).nodup_iff).mp S.nd
/-- an object beside becomes one of the ledger -/
theorem St.adopt (S : St G h₀ L m ((a, o) :: Y) ρ σ h) (hd : ¬ Slotty o) {ao : AO} (ho : OR G (ρ ++ [a]) ao o) : St G h₀ L m Y (ρ ++ [a]) (Mine.alloc σ ao).2 h := by
  obtain ⟨news, X, S⟩ := S
  have hX := S.X
  cases hX with
  | @cons _ x _ X r rs =>
    obtain ⟨a', q⟩ := x
    obtain ⟨r1, r2⟩ := r
    have r1 : a' = a := r1
    subst r1
    have r2 : q = o := by
      rcases r2 with r2 | r2
      · exact r2
      · exact absurd r2.1 hd
    subst r2
    have pm : (news ++ (a', q) :: X).Perm ((a', q) :: (news ++ X)) := List.perm_middle
    refine ⟨(a', q) :: news, X, ⟨by simp [Mine.alloc, S.len], S.F, fun p hp => S.N p (pm.mem_iff.mpr hp), ((pm.map (·.1)).nodup_iff).mp S.nd, ?_, rs⟩⟩
    have := S.R.alloc ho
    rw [S.len] at this
    exact this
theorem St.keeps (S : St G h₀ L m Y ρ σ h) (k : ∀ b o, h.get? b = some o → h'.get? b = some o) : St G h₀ L m Y ρ σ h' := by
  obtain ⟨news, X, S⟩ := S
  exact ⟨news, X, S.keeps k⟩
/-- the frame itself changes -/
theorem St.frame (S : St G h₀ L m Y ρ σ h) (hs : Heap.SameBut L h h') (n : h'.Ns L m') : St G h₀ L m' Y ρ σ h' := by
  obtain ⟨news, X, S⟩ := S
  exact ⟨news, X, ⟨S.len, S.F.set n hs, S.N.set hs, S.nd, S.R, S.X⟩⟩
end
end Mine
end

section
set_option maxRecDepth 100000
namespace Mine
open PySem PySem.W PyProof.Rows PySem.Calls PySem.SeqAt
/-- an exception e, made in this frame, with no trace yet -/
noncomputable def Rai (W : Wd) (fr : List Env) (L : Addr) (m : PySem.Str → Option Value) (Y : List (Addr × Obj)) (ρ : List Addr) (σ : Sig) (e : Addr) (h : Heap) : Prop :=
  ∃ news X B oe vs a0, StW W.G W.h₀ L m Y ρ σ h news X ∧ W.h₀.StaysIn B ∧ (∀ p ∈ news, B.get? p.1 = some p.2) ∧ (∀ p ∈ X, ¬ Slotty p.2 → B.get? p.1 = some p.2) ∧ B.StaysIn h ∧ B.get? e = none ∧ h.FunFrames B fr ∧
    h.get? e = some oe ∧ oe.cls = .ref W.C ∧ oe.data = .fields vs ∧ vs[0]? = some a0 ∧ vs[1]? = some .none
noncomputable def PostS (W : Wd) (env : Env) (fr : List Env) (L : Addr) (Y : List (Addr × Obj)) (ρ : List Addr) (o : OutS) (Q : Flow → Shared → Prop) (E : Value → Shared → Prop) (s : Shared) : Prop := match o with
  | .stuck => False
  | .next l' σ' => ∀ ρ' m' h' tk', ρ <+: ρ' → St W.G W.h₀ L m' Y ρ' σ' h' → LR W.G env ρ' l' m' → Q .next { s with heap := h', toks := tk' }
  | .ret a σ' => ∀ ρ' m' v h' tk', ρ <+: ρ' → St W.G W.h₀ L m' Y ρ' σ' h' → VR W.G ρ' a v → Q (.ret v) { s with heap := h', toks := tk' }
  | .exc σ' => ∀ ρ' m' e h' tk', ρ <+: ρ' → Fly W.G W.C fr W.h₀ L m' Y ρ' σ' e h' → E (.ref e) { s with heap := h', toks := tk' }
  | .rai σ' => ∀ ρ' m' e h' tk', ρ <+: ρ' → Rai W fr L m' Y ρ' σ' e h' → E (.ref e) { s with heap := h', toks := tk' }
/-- a frame that runs statements -/
structure Cs (W : Wd) (L : Addr) (Y : List (Addr × Obj)) (fi : FI) (env : Env) (A : Around) (fr : List Env) : Prop extends Cx W L Y fi env A fr where
  ef : env.frame = some L
  fe : ∃ outer, fr = env :: outer
section
variable (W : Wd)
structure SoundS (ih : Itp) : Prop extends Sound W ih where
  ex : ∀ {L Y fi env A fr m l st σ ρ s Q E}, Cs W L Y fi env A fr → St W.G W.h₀ L m Y ρ σ s.heap → LR W.G env ρ l m → PostS W env fr L Y ρ (ih.ex fi l st σ) Q E s →
    wpAny (model W.prog W.w) A (exec (toS W.G.nm st) env) Q E s
  exs : ∀ {L Y fi env A fr m l ss σ ρ s Q E}, Cs W L Y fi env A fr → St W.G W.h₀ L m Y ρ σ s.heap → LR W.G env ρ l m → PostS W env fr L Y ρ (ih.exs fi l ss σ) Q E s →
    wpAny (model W.prog W.w) A (execs (toSs W.G.nm ss) env) Q E s
  whl : ∀ {L Y fi env A fr m l t b σ ρ s E}, {R : Result → Shared → Prop} → Cs W L Y fi env A fr → St W.G W.h₀ L m Y ρ σ s.heap → LR W.G env ρ l m → PostS W env fr L Y ρ (onlyNext (ih.whl fi l t b σ)) (fun f s' => R (.ok f) s') E s →
    codeAny (model W.prog W.w) A (.whileLoop (toE W.G.nm t) (toSs W.G.nm b) [] env) R s
  fr : ∀ {L Y fi env A fr m l x xp k I b σ ρ s E}, {R : Result → Shared → Prop} → Cs W L Y fi env A fr → St W.G W.h₀ L m Y ρ σ s.heap → LR W.G env ρ l m → nelem fi.locs x = true → ρ[k]? = some I →
    PostS W env fr L Y ρ (onlyNext (ih.fr fi l x k b σ)) (fun f s' => R (.ok f) s') E s →
    codeAny (model W.prog W.w) A (.forLoop (.Name (W.G.nm x) xp) (.ref I) (toSs W.G.nm b) [] env) R s
end
section
variable {W : Wd} {L : Addr} {Y : List (Addr × Obj)} {fi : FI} {env : Env} {A : Around} {fr : List Env} {m : PySem.Str → Option Value} {l : Loc} {σ : Sig} {ρ ρ' : List Addr} {s : Shared} {E E' : Value → Shared → Prop} {ih : Itp} {G : Mn}
  {Q Q' : Flow → Shared → Prop}
theorem PostS.shift {o : OutS} (h : PostS W env fr L Y ρ o Q E s) (pre : ρ <+: ρ') (h' : Heap) (tk : Nat) : PostS W env fr L Y ρ' o Q E { s with heap := h', toks := tk } := by
  cases o with
  | stuck => exact h
  | next l' σ' => exact fun ρ'' m' h₂ tk₂ p => h ρ'' m' h₂ tk₂ (pre.trans p)
  | ret a σ' => exact fun ρ'' m' v h₂ tk₂ p => h ρ'' m' v h₂ tk₂ (pre.trans p)
  | exc σ' => exact fun ρ'' m' e h₂ tk₂ p => h ρ'' m' e h₂ tk₂ (pre.trans p)
  | rai σ' => exact fun ρ'' m' e h₂ tk₂ p => h ρ'' m' e h₂ tk₂ (pre.trans p)
theorem PostS.bind {α β : Type} {o : Out α} {f : α → Sig → OutS} (h : PostS W env fr L Y ρ (o.bindS f) Q E s) {RA : List Addr → α → β → Prop} {Q' : β → Shared → Prop}
    (hQ : ∀ a σ' ρ' x s', s' = { s with heap := s'.heap, toks := s'.toks } → ρ <+: ρ' → St W.G W.h₀ L m Y ρ' σ' s'.heap → RA ρ' a x → PostS W env fr L Y ρ' (f a σ') Q E s' → Q' x s') :
    PostO W.G W.C fr W.h₀ L m Y RA ρ o Q' E s := by
  cases o with
  | stuck => exact h
  | ok a σ' => exact fun ρ' x h' tk' p st ra => hQ a σ' ρ' x { s with heap := h', toks := tk' } rfl p st ra (PostS.shift h p h' tk')
  | exc σ' => exact fun ρ' e h' tk' p fl => h ρ' m e h' tk' p fl
theorem onlyNext_post {o : OutS} (h : PostS W env fr L Y ρ (onlyNext o) Q E s) (k : ∀ s', Q .next s' → Q' .next s') : PostS W env fr L Y ρ (onlyNext o) Q' E' s := by
  cases o with
  | next l' σ' => exact fun ρ' m' h' tk' p S hl => k _ (h ρ' m' h' tk' p S hl)
  | _ => exact h.elim
theorem PostS.nx {l' : Loc} {σ' : Sig} (h : PostS W env fr L Y ρ (.next l' σ') Q E s) {m' : PySem.Str → Option Value} (S : St W.G W.h₀ L m' Y ρ σ' s.heap) (hl : LR W.G env ρ l' m') (tk : Nat) : Q .next { s with toks := tk } :=
  h ρ m' s.heap tk (List.prefix_refl _) S hl
theorem store_sound (c : Cx W L Y fi env A fr) (S : St W.G W.h₀ L m Y ρ σ s.heap) (hl : LR W.G env ρ l m) {x : Nat} (hx : nelem fi.locs x = true) {a : AV} {v : Value} (rv : VR W.G ρ a v) {M : Model} {A' : Around} {Q : Unit → Shared → Prop}
    (q : ∀ h' m', St W.G W.h₀ L m' Y ρ σ h' → LR W.G env ρ (aput l x a) m' → Q () { s with heap := h', toks := s.toks + 1 }) : wpAny M A' (storeName env (W.G.nm x) v) Q E s := by
  have hn : s.heap.Ns env.locals m := by obtain ⟨_, _, S⟩ := S; rw [c.lo]; exact S.F.ns
  refine wpAny_storeName_local (c.li x hx) hn (fun h' n hs => ?_) (by rw [c.fk]; rfl)
  rw [c.lo] at n hs
  exact q h' _ (S.frame hs n) (hl.put (c.li x hx) rv)
theorem noFold (nm : Nat → PySem.Str) (e : PE) (env : Env) (v : Value) : foldedSetIterable (toE nm e) env v = pure v := by cases e <;> rfl
theorem noSwap (nm : Nat → PySem.Str) (e : PE) (hc : noComp e = true) (t : Option Expr) (line : Nat) (env : Env) : swapsWith (toE nm e) t line env = pure false := by
  cases e <;> first | rfl | cases hc
theorem pos_name (nm : Nat → PySem.Str) (x : Nat) (p : Pos) : (Expr.Name (nm x) p).pos = p := rfl
end
end Mine
end

section
set_option maxRecDepth 100000
namespace Mine
open PySem PySem.W PyProof.Rows PySem.Calls PySem.SeqAt
section
variable {prog : Program} {w : World} {A : Around} {E : Value → Shared → Prop} {s : Shared}
theorem setNeg {l : Addr} {items : Array Value} {n : Nat} {k : Int} {t : Tok} {v : Value} {Q : Unit → Shared → Prop} (ho : s.heap.get? l = some (PySem.W.listOf items n))
    (h0 : k < 0) (h1 : -(items.size : Int) ≤ k) (hfit : -(2 ^ 63) ≤ k)
    (hQ : ∀ h' n', h'.get? l = some (PySem.W.listOf (items.setIfInBounds (k + items.size).toNat v) n') → Heap.SameBut l s.heap h' → Q () { s with heap := h' }) :
    wpAny (model prog w) A (setItem (.ref l) (.int k t) v) Q E s := by
  have hl : s.heap.IsList l items := ⟨_, ho, rfl, n, rfl⟩
  unfold setItem
  try with_reducible refine wpAny_holding ?_
  first | refine wpAny_bind (wpAny_pure ?_) | skip
  refine wpAny_bind (wpAny_sequenceKey hl.typeIs (by decide) ?_)
  refine wpAny_bind (wpAny_callSpecial?_slot (name := Str.ofString "__setitem__") hl.typeIs slot_list_setitem
    (wpAny_call_entry slot_list_setitem hl.typeIs entry_list_setitem ?_ (args_list_setitem _ _ _)))
  show wpAny _ _ (Builtin.List.listSubscript? (.int k t) >>= _) _ _ s
  refine wpAny_bind (wpAny_listSubscript_int (fitsIndex_neg h0 hfit) ?_)
  clear hfit
  have hidx := seqIndex_neg h0 h1
  have hj : (k + items.size).toNat < items.size := by omega
  have hx' : items[(k + items.size).toNat]? = some items[(k + items.size).toNat] := Array.getElem?_eq_getElem hj
  obtain ⟨j, rfl⟩ : ∃ j : Nat, k = Int.negSucc j := by
    cases k with
    | ofNat n => exact absurd h0 (Int.not_lt.mpr (Int.ofNat_nonneg n))
    | negSucc n => exact ⟨n, rfl⟩
  show wpAny _ _ ((Builtin.List.listItems (.ref l) >>= fun xs => pure ((seqIndex? (Int.negSucc j) xs.size).bind fun i => xs[i]?.map (i, ·))) >>= _) _ _ s
  refine wpAny_bind (wpAny_bind ?_)
  show wpAny _ _ (seqItems? (.ref l) >>= _) _ _ s
  refine wpAny_bind (wpAny_seqItems ho rfl (wpAny_pure (wpAny_pure ?_)))
  rw [hidx]
  simp only [Option.bind_some, hx', Option.map_some]
  show wpAny _ _ (setSeqItemAt l (Int.negSucc j + items.size).toNat v >>= _) _ _ s
  have hfin : (s.heap.update l (Obj.mapSeq (·.setIfInBounds (Int.negSucc j + items.size).toNat v))).get? l = some (Obj.mapSeq (·.setIfInBounds (Int.negSucc j + items.size).toNat v) (PySem.W.listOf items n)) :=
    Heap.get?_update_self _ ho rfl
  refine wpAny_bind (wpAny_setSeqItemAt ho rfl ?_)
  first
    | exact wpAny_bind (wpAny_pure (wpAny_pure ⟨.none, rfl, wpAny_pure (hQ _ _ hfin (Heap.SameBut.update ..))⟩))
    | exact wpAny_pure ⟨.none, rfl, wpAny_pure (hQ _ _ hfin (Heap.SameBut.update ..))⟩
end
end Mine
end

section
set_option maxRecDepth 100000
namespace Mine
open PySem PySem.W PyProof.Rows PySem.Calls PySem.SeqAt
section
variable {W : Wd} {L : Addr} {Y : List (Addr × Obj)} {fi : FI} {env : Env} {A : Around} {fr : List Env} {m : PySem.Str → Option Value} {l : Loc} {σ : Sig} {ρ ρ' : List Addr} {s : Shared} {E E' : Value → Shared → Prop} {ih : Itp} {G : Mn}
  {Q Q' : Flow → Shared → Prop}
theorem ns_of (c : Cx W L Y fi env A fr) (S : St W.G W.h₀ L m Y ρ σ s.heap) : s.heap.Ns env.locals m := by obtain ⟨_, _, S⟩ := S; rw [c.lo]; exact S.F.ns
theorem ex_asg (So : Sound W ih) (c : Cx W L Y fi env A fr) (S : St W.G W.h₀ L m Y ρ σ s.heap) (hl : LR W.G env ρ l m) {x : Nat} {xp p : Pos} {e : PE} (hc : noComp e = true)
    (h : PostS W env fr L Y ρ ((ih.ev fi l e σ).bindS fun v σ => bif nelem fi.locs x then .next (aput l x v) σ else .stuck) Q E s) : wpAny (model W.prog W.w) A (exec (toS W.G.nm (.asg x xp e p)) env) Q E s := by
  refine wpAny_Assign_Name (So.ev c S hl (PostS.bind h fun v σ1 ρ1 vv s1 _ p1 S1 r1 h1 => ?_)) (noSwap _ _ hc _ _ _)
  cases z : nelem fi.locs x with
  | false => rw [z] at h1; exact h1.elim
  | true =>
    rw [z] at h1
    exact store_sound c S1 (hl.mono p1) z r1 fun h' m' S2 hl2 => h1 ρ1 m' h' _ (List.prefix_refl _) S2 hl2
theorem ex_asgA (Sa : Sta W) (So : Sound W ih) (c : Cx W L Y fi env A fr) (S : St W.G W.h₀ L m Y ρ σ s.heap) (hl : LR W.G env ρ l m) {u n : Nat} {up np p : Pos} {e : PE} (hc : noComp e = true)
    (h : PostS W env fr L Y ρ ((ih.ev fi l e σ).bindS fun v σ => (ih.ev fi l (.loc u up) σ).bindS fun x σ => setA W.tb l x n v σ) Q E s) : wpAny (model W.prog W.w) A (exec (toS W.G.nm (.asgA (.loc u up) n np e p)) env) Q E s := by
  refine plainObj_wpAny_Assign_Attribute (So.ev c S hl (PostS.bind h fun v σ1 ρ1 vv s1 _ p1 S1 r1 h1 => So.ev (e := .loc u up) c S1 (hl.mono p1) (PostS.bind h1 fun x σ2 ρ2 xv s2 _ p2 S2 r2 h2 => ?_))) (noSwap _ _ hc _ _ _)
  cases x with
  | ref i =>
    cases r2 with | @ref _ q hp =>
    have h2 : PostS W env fr L Y ρ2 (match attSet W.tb σ2 i n v with | some σ' => .next l σ' | none => .stuck) Q E s2 := h2
    cases z : attSet W.tb σ2 i n v with
    | none => rw [z] at h2; exact h2.elim
    | some σ' =>
      rw [z] at h2
      exact attSet_sound Sa S2 hp z (r1.mono p2) fun h' tk S3 => h2 ρ2 m h' tk (List.prefix_refl _) S3 ((hl.mono p1).mono p2)
  | _ => exact h2.elim
theorem setI_inv {x y v : AV} (h : PostS W env fr L Y ρ (setI l x y v σ) Q E s) : ∃ (a : Nat) (xs : List AV), x = .ref a ∧ y = .int (-1) ∧ look σ a = some (.lst xs) ∧ xs.length ≤ 1000 ∧ 1 ≤ xs.length ∧
    PostS W env fr L Y ρ (.next l (store σ a (.lst (xs.set (xs.length - 1) v)))) Q E s := by
  unfold setI at h
  split at h
  · rename_i a
    split at h
    · rename_i xs z
      cases hc : (small xs.length && Nat.ble 1 xs.length) with
      | false => rw [hc] at h; exact h.elim
      | true =>
        rw [hc] at h
        obtain ⟨c1, c2⟩ := and3 hc
        exact ⟨a, xs, rfl, rfl, z, small_le c1, Nat.le_of_ble_eq_true c2, h⟩
    · exact h.elim
  · exact h.elim
theorem All2.set {α β : Type} {R : α → β → Prop} {l l'} (x : All2 R l l') (n : Nat) {a : α} {b : β} (r : R a b) : All2 R (l.set n a) (l'.set n b) := by
  induction x generalizing n with
  | nil => rw [List.set_nil, List.set_nil]; exact .nil
  | cons h _ ih => cases n with
    | zero => exact .cons r (by assumption)
    | succ n => exact .cons h (ih n)
theorem ex_asgS (Sa : Sta W) (So : Sound W ih) (c : Cx W L Y fi env A fr) (S : St W.G W.h₀ L m Y ρ σ s.heap) (hl : LR W.G env ρ l m) {u : Nat} {up sp p : Pos} {i e : PE} (hc : noComp e = true)
    (h : PostS W env fr L Y ρ ((ih.ev fi l e σ).bindS fun v σ => (ih.ev fi l (.loc u up) σ).bindS fun x σ => (ih.ev fi l i σ).bindS fun y σ => setI l x y v σ) Q E s) :
    wpAny (model W.prog W.w) A (exec (toS W.G.nm (.asgS (.loc u up) i sp e p)) env) Q E s := by
  refine wpAny_Assign_Subscript (So.ev c S hl (PostS.bind h fun v σ1 ρ1 vv s1 _ p1 S1 r1 h1 => So.ev (e := .loc u up) c S1 (hl.mono p1) (PostS.bind h1 fun x σ2 ρ2 xv s2 _ p2 S2 r2 h2 =>
    So.ev c S2 ((hl.mono p1).mono p2) (PostS.bind h2 fun y σ3 ρ3 yv s3 _ p3 S3 r3 h3 => ?_)))) (noSwap _ _ hc _ _ _)
  obtain ⟨a, xs, rfl, rfl, z, l1, l2, h4⟩ := setI_inv h3
  cases r2 with | @ref _ q hp =>
  cases r3 with | int _ t =>
  have hp3 := pre_get p3 hp
  obtain ⟨us, it, hv, k, hg⟩ := at_lst S3 z hp3
  obtain ⟨news, X, S3⟩ := S3
  obtain ⟨a', o, g1, g2, g3, g4⟩ := S3.upd z
  rw [hp3] at g1
  cases g1
  rw [hg] at g2
  cases g2
  have hlen := hv.len
  refine setNeg hg (by omega) (by rw [List.size_toArray]; omega) (by omega) fun h' n' e' hs => ?_
  have ei : ((-1 : Int) + (us.toArray.size : Nat)).toNat = xs.length - 1 := by rw [List.size_toArray, hlen]; omega
  rw [ei] at e'
  have hn : VRs W.G ρ3 (xs.set (xs.length - 1) v) (us.set (xs.length - 1) vv) := All2.set hv _ ((r1.mono p2).mono p3)
  rw [List.setIfInBounds_toArray] at e'
  obtain ⟨news', U, fin⟩ := g4 _ (PySem.W.listOf (us.set (xs.length - 1) vv).toArray n') (.lst n' hn)
  obtain ⟨pre, post, e1, e2, e3, e4⟩ := U.split
  have hF : Fr W.h₀ L h' m := S3.F.change hs (S3.N (q, PySem.W.listOf us.toArray k) (by rw [e1]; simp)).2.1 (S3.N (q, PySem.W.listOf us.toArray k) (by rw [e1]; simp)).2.2
  have hN : News W.h₀ L h' news' := by
    rw [e2]
    have := S3.N
    rw [e1] at this
    exact news_set this e3 e4 hs e'
  exact h4 ρ3 m h' _ (List.prefix_refl _) (fin h' hF hN) (((hl.mono p1).mono p2).mono p3)
theorem ex_ret (So : Sound W ih) (c : Cx W L Y fi env A fr) (S : St W.G W.h₀ L m Y ρ σ s.heap) (hl : LR W.G env ρ l m) {p : Pos} {e : PE}
    (h : PostS W env fr L Y ρ ((ih.ev fi l e σ).bindS fun v σ => .ret v σ) Q E s) : wpAny (model W.prog W.w) A (exec (toS W.G.nm (.ret e p)) env) Q E s :=
  wpAny_Return_some (So.ev c S hl (PostS.bind h fun v σ1 ρ1 vv s1 _ _ S1 r1 h1 => h1 ρ1 m vv s1.heap s1.toks (List.prefix_refl _) S1 r1))
theorem ex_ifs (So : SoundS W ih) (c : Cs W L Y fi env A fr) (S : St W.G W.h₀ L m Y ρ σ s.heap) (hl : LR W.G env ρ l m) {p : Pos} {t : PE} {a b : PSs}
    (h : PostS W env fr L Y ρ ((ih.tr fi l t σ).bindS fun c σ => bif c then ih.exs fi l a σ else ih.exs fi l b σ) Q E s) : wpAny (model W.prog W.w) A (exec (toS W.G.nm (.ifs t a b p)) env) Q E s := by
  refine wpAny_If (So.tr c.toCx S hl (PostS.bind h fun v σ1 ρ1 vv s1 _ p1 S1 r1 h1 => ?_))
  subst r1
  cases v with
  | true => exact So.exs c S1 (hl.mono p1) h1
  | false => exact So.exs c S1 (hl.mono p1) h1
theorem ex_exp (So : Sound W ih) (c : Cx W L Y fi env A fr) (S : St W.G W.h₀ L m Y ρ σ s.heap) (hl : LR W.G env ρ l m) {p : Pos} {e : PE} (hc : noComp e = true)
    (h : PostS W env fr L Y ρ ((ih.ev fi l e σ).bindS fun v σ => isNone l v σ) Q E s) : wpAny (model W.prog W.w) A (exec (toS W.G.nm (.exp e p)) env) Q E s := by
  refine wpAny_Expr (So.ev c S hl (PostS.bind h fun v σ1 ρ1 vv s1 _ p1 S1 r1 h1 => ?_)) (by unfold interactive; rw [c.fk]; rfl) (noSwap _ _ hc _ _ _)
  cases v with
  | none =>
    cases r1
    exact h1 ρ1 m s1.heap s1.toks (List.prefix_refl _) S1 (hl.mono p1)
  | _ => exact h1.elim
theorem unp2_inv {x y : Nat} {v : AV} (h : PostS W env fr L Y ρ (unp2 l x y v σ) Q E s) : ∃ (i : Nat) (a b : AV), v = .ref i ∧ look σ i = some (.tup [a, b]) ∧ PostS W env fr L Y ρ (.next (aput (aput l x a) y b) σ) Q E s := by
  unfold unp2 at h
  split at h
  · split at h
    · rename_i z
      exact ⟨_, _, _, rfl, z, h⟩
    · exact h.elim
  · exact h.elim
theorem swaps_tuple (env : Env) (e : Expr) (line : Nat) (ts : List Expr) (k : Nat) (p : Pos) (h : ∀ t, swapsWith e t line env = pure false) : swapsWithSole [.Tuple ts k p] e line env = pure false := h (some (.Tuple ts k p))
theorem ex_unp (So : Sound W ih) (c : Cx W L Y fi env A fr) (S : St W.G W.h₀ L m Y ρ σ s.heap) (hl : LR W.G env ρ l m) {x y : Nat} {xp yp tp p : Pos} {e : PE} (hc : noComp e = true)
    (hw : swappedStores [.Tuple [.Name (W.G.nm x) xp, .Name (W.G.nm y) yp] 0 tp] (toE W.G.nm e) env = pure none)
    (h : PostS W env fr L Y ρ (bif nelem fi.locs x && nelem fi.locs y then (ih.ev fi l e σ).bindS fun v σ => unp2 l x y v σ else .stuck) Q E s) : wpAny (model W.prog W.w) A (exec (toS W.G.nm (.asgT [(x, xp), (y, yp)] tp e p)) env) Q E s := by
  cases z : (nelem fi.locs x && nelem fi.locs y) with
  | false => rw [z] at h; exact h.elim
  | true =>
  rw [z] at h
  obtain ⟨z1, z2⟩ := and3 z
  refine Assign_Tuple (So.ev c S hl (PostS.bind h fun v σ1 ρ1 vv s1 _ p1 S1 r1 h1 => ?_)) (swaps_tuple _ _ _ _ _ _ fun t => noSwap _ _ hc _ _ _) hw
  obtain ⟨i, a, b, rfl, u, h2⟩ := unp2_inv h1
  cases r1 with | @ref _ q hp =>
  obtain ⟨xs, it, hv, k, hg⟩ := at_tup S1 u hp
  cases hv with | @cons _ va _ _ ra rest =>
  cases rest with | @cons _ vb _ _ rb rest =>
  cases rest
  refine wpAny_assign_Tuple c.hd it rfl rfl fun h' he => ?_
  have S2 : St W.G W.h₀ L m Y ρ1 σ1 h' := S1.keeps fun b o e => he b o (Nat.ne_of_lt (Heap.lt_size e)) e
  show wpAny _ _ (assignInOrder [assign (.Name (W.G.nm x) xp) env, assign (.Name (W.G.nm y) yp) env] [va, vb]) _ _ _
  refine wpAny_assignInOrder_more (wpAny_assign_Name ?_)
  refine store_sound (s := { s1 with heap := h' }) c S2 (hl.mono p1) z1 ra fun h3 m3 S3 hl3 => ?_
  refine wpAny_assignInOrder_more (wpAny_assign_Name ?_)
  refine store_sound (s := { s1 with heap := h3, toks := s1.toks + 1 }) c S3 hl3 z2 rb fun h4 m4 S4 hl4 => ?_
  exact wpAny_assignInOrder_none (h2 ρ1 m4 h4 _ (List.prefix_refl _) S4 hl4)
end
end Mine
end

section
set_option maxRecDepth 100000
namespace Mine
open PySem PySem.W PyProof.Rows PySem.Calls PySem.SeqAt
section
variable {W : Wd} {L : Addr} {Y : List (Addr × Obj)} {fi : FI} {env : Env} {A : Around} {fr : List Env} {m : PySem.Str → Option Value} {l : Loc} {σ : Sig} {ρ ρ' : List Addr} {s : Shared} {E E' : Value → Shared → Prop} {ih : Itp} {G : Mn}
  {Q Q' : Flow → Shared → Prop}
theorem folded0 (nm : Nat → PySem.Str) (e : PE) (h : dynE e = true) (n : Nat) : foldedForSure (n + 1) (toE nm e) = false := by
  cases e <;> first | rfl | cases h
theorem alone0 {nm : Nat → PySem.Str} (nd : ∀ x, (nm x == ("__debug__" : PySem.Str)) = false) (e : PE) (h : dyn0 e = true) (n : Nat) : constantsAlone (n + 1) (toE nm e) = false := by
  cases e with
  | loc x p => exact nd x
  | lst es p => rfl
  | call f as p => rfl
  | _ => cases h
theorem alone1 {nm : Nat → PySem.Str} (nd : ∀ x, (nm x == ("__debug__" : PySem.Str)) = false) (e : PE) (h : dynE e = true) (n : Nat) : constantsAlone (n + 2) (toE nm e) = false := by
  cases e with
  | bin op a b p =>
    show (constantsAlone (n + 1) (toE nm a) && constantsAlone (n + 1) (toE nm b)) = false
    rw [alone0 nd a h]; rfl
  | sub a b p =>
    show (constantsAlone (n + 1) (toE nm a) && constantsAlone (n + 1) (toE nm b)) = false
    rw [alone0 nd a h]; rfl
  | loc x p => exact nd x
  | lst es p => rfl
  | call f as p => rfl
  | _ => cases h
theorem swapped_of {nm : Nat → PySem.Str} (nd : ∀ x, (nm x == ("__debug__" : PySem.Str)) = false) {x y : Nat} {xp yp tp vp : Pos} {a b : PE} (hx : env.kindOf (nm x) = some .local) (hy : env.kindOf (nm y) = some .local) (hk : env.scope.kind = .function)
    (hp : xp.line = yp.line) (hne : (nm x == nm y) = false) (hd : (dynE a || dynE b) = true) :
    swappedStores [.Tuple [.Name (nm x) xp, .Name (nm y) yp] 0 tp] (.Tuple [toE nm a, toE nm b] 0 vp) env = pure (some [nm x, nm y]) := by
  have hne' : ¬ (nm y == nm x) = true := fun e => by rw [beq_iff_eq] at e; rw [e] at hne; simp at hne
  have hb : (env.blockKind != .function) = false := by unfold Env.blockKind; rw [hk]; rfl
  have nsA : ∀ e q, toE nm a ≠ .Starred e q := fun e q => by cases a <;> simp [toE]
  have nsB : ∀ e q, toE nm b ≠ .Starred e q := fun e q => by cases b <;> simp [toE]
  have h5 : ([toE nm a, toE nm b].all (foldedForSure 8)) = false := by
    show (foldedForSure 8 (toE nm a) && (foldedForSure 8 (toE nm b) && true)) = false
    rcases Bool.or_eq_true_iff.mp hd with h | h
    · rw [folded0 nm a h 7]; rfl
    · rw [folded0 nm b h 7]; cases foldedForSure 8 (toE nm a) <;> rfl
  have h6 : ([toE nm a, toE nm b].all (constantsAlone 8)) = false := by
    show (constantsAlone 8 (toE nm a) && (constantsAlone 8 (toE nm b) && true)) = false
    rcases Bool.or_eq_true_iff.mp hd with h | h
    · rw [alone1 nd a h 6]; rfl
    · rw [alone1 nd b h 6]; cases constantsAlone 8 (toE nm a) <;> rfl
  have h4 : ([nm x, nm y].eraseDups.length != 2) = false := by
    have : [nm x, nm y].eraseDups = [nm x, nm y] := by
      rw [List.eraseDups_cons]
      have : (List.filter (fun b => !b == nm x) [nm y]) = [nm y] := by
        rw [List.filter_cons_of_pos]
        · rfl
        · simpa using hne'
      rw [this, List.eraseDups_cons]
      rfl
    rw [this]; rfl
  unfold swappedStores
  simp only [hb, List.length_cons, List.length_nil, Nat.zero_add, beq_self_eq_true, Bool.true_or, Bool.not_true, bne_self_eq_false, Bool.false_or, Bool.or_false, Bool.or_self, if_false, Bool.false_eq_true]
  rw [if_neg (by
    intro h
    simp only [List.any_cons, List.any_nil, Bool.or_false, Bool.or_eq_true] at h
    first
      | exact absurd h Bool.false_ne_true
      | (rcases h with h | h <;> (split at h <;> first | (rename_i q; exact nsA _ _ q) | (rename_i q; exact nsB _ _ q) | cases h)))]
  simp only [List.filterMap_cons, List.filterMap_nil, List.head?_cons, Option.map_some, Option.getD_some, pos_name, hx, hy, hp, beq_self_eq_true, Bool.and_self, if_true, List.length_cons, List.length_nil, Nat.zero_add, bne_self_eq_false, Bool.false_or, h4, h5, h6, if_false, Bool.false_eq_true]
end
end Mine
end

section
set_option maxRecDepth 100000
namespace Mine
open PySem PySem.W PyProof.Rows PySem.Calls PySem.SeqAt
section
variable {W : Wd} {L : Addr} {Y : List (Addr × Obj)} {fi : FI} {env : Env} {A : Around} {fr : List Env} {m : PySem.Str → Option Value} {l : Loc} {σ : Sig} {ρ ρ' : List Addr} {s : Shared} {E E' : Value → Shared → Prop} {ih : Itp} {G : Mn}
  {Q Q' : Flow → Shared → Prop}
theorem ex_swap (Sa : Sta W) (So : Sound W ih) (c : Cx W L Y fi env A fr) (S : St W.G W.h₀ L m Y ρ σ s.heap) (hl : LR W.G env ρ l m) {x y : Nat} {xp yp tp vp p : Pos} {a b : PE}
    (h : PostS W env fr L Y ρ (bif Nat.beq xp.line yp.line && !Nat.beq x y && (dynE a || dynE b) && nelem fi.locs x && nelem fi.locs y then
        (ih.evs fi l (.cons a (.cons b .nil)) σ).bindS fun vs σ => set2 l x y vs σ else .stuck) Q E s) : wpAny (model W.prog W.w) A (exec (toS W.G.nm (.asgT [(x, xp), (y, yp)] tp (.tup (.cons a (.cons b .nil)) vp) p)) env) Q E s := by
  cases z : (Nat.beq xp.line yp.line && !Nat.beq x y && (dynE a || dynE b) && nelem fi.locs x && nelem fi.locs y) with
  | false => rw [z] at h; exact h.elim
  | true =>
  rw [z] at h
  obtain ⟨z, z5⟩ := and3 z
  obtain ⟨z, z4⟩ := and3 z
  obtain ⟨z, z3⟩ := and3 z
  obtain ⟨z1, z2⟩ := and3 z
  have z1 := Nat.eq_of_beq_eq_true z1
  have hne : (W.G.nm x == W.G.nm y) = false := beq_eq_false_iff_ne.mpr fun e => by
    have := W.G.inj _ _ e
    subst this
    simp at z2
  refine Assign_Tuple_swapped (names := [W.G.nm x, W.G.nm y]) ?_ rfl (swapped_of Sa.nd (c.li x z4) (c.li y z5) c.fk z1 hne z3)
  refine Tuple_ ?_
  have e := starEach_plain W.G.nm vp env (.cons a (.cons b .nil))
  rw [e]
  refine So.evs c S hl (PostS.bind h fun vs σ1 ρ1 xs s1 _ p1 S1 r1 h1 => ?_)
  have h1 : PostS W env fr L Y ρ1 (set2 l x y vs σ1) Q E s1 := h1
  unfold set2 at h1
  split at h1
  · cases r1 with | @cons _ va _ _ ra rest =>
    cases rest with | @cons _ vb _ _ rb rest =>
    cases rest
    refine wpAny_newObj_type ?_ (by show [va, vb].toArray.size ≤ sizeLine; rw [sizeLine_eq]; show 2 ≤ 16777216; omega)
    have S2 : St W.G W.h₀ L m Y ρ1 σ1 (s1.heap.push { cls := .type "tuple", data := .seq [va, vb].toArray }) := S1.keeps fun b o e => Heap.get?_push_of_some _ e
    refine unpackItems_tuple (s := { s1 with heap := _ }) (items := #[va, vb]) c.hd ⟨_, Heap.get?_push_size _ rfl, rfl, _, rfl⟩ fun h' he => ?_
    have S3 : St W.G W.h₀ L m Y ρ1 σ1 h' := S2.keeps fun b o e => he b o (Nat.ne_of_lt (Heap.lt_size e)) e
    show wpAny _ _ (assignInOrder [bindName env (W.G.nm y), bindName env (W.G.nm x)] [vb, va]) _ _ _
    refine wpAny_assignInOrder_more (wpAny_bindName ?_)
    refine store_sound (s := { s1 with heap := h' }) c S3 (hl.mono p1) z5 rb fun h3 m3 S4 hl3 => ?_
    refine wpAny_assignInOrder_more (wpAny_bindName ?_)
    refine store_sound (s := { s1 with heap := h3, toks := s1.toks + 1 }) c S4 hl3 z4 ra fun h4 m4 S5 hl4 => ?_
    exact wpAny_assignInOrder_none (h1 ρ1 m4 h4 _ (List.prefix_refl _) S5 hl4)
  · exact h1.elim
theorem ex_whl (So : SoundS W ih) (c : Cs W L Y fi env A fr) (S : St W.G W.h₀ L m Y ρ σ s.heap) (hl : LR W.G env ρ l m) {p : Pos} {t : PE} {b : PSs}
    (h : PostS W env fr L Y ρ (onlyNext (ih.whl fi l t b σ)) Q E s) : wpAny (model W.prog W.w) A (exec (toS W.G.nm (.whl t b p)) env) Q E s :=
  wpAny_While (So.whl (E := E) c S hl (onlyNext_post h fun s' q => q))
theorem forV_inv {x : Nat} {b : PSs} {v : AV} (h : PostS W env fr L Y ρ (forV ih fi l x b v σ) Q E s) : ∃ i xs, v = .ref i ∧ look σ i = some (.lst xs) ∧
    PostS W env fr L Y ρ (onlyNext (ih.fr fi l x (Mine.alloc σ (.lit i 0)).1 b (Mine.alloc σ (.lit i 0)).2)) Q E s := by
  unfold forV at h
  split at h
  · rename_i i
    cases z : isL σ i with
    | false => rw [z] at h; exact h.elim
    | true =>
      rw [z] at h
      obtain ⟨xs, u⟩ := isL_inv z
      exact ⟨i, xs, rfl, u, h⟩
  · exact h.elim
theorem ex_for (So : SoundS W ih) (c : Cs W L Y fi env A fr) (S : St W.G W.h₀ L m Y ρ σ s.heap) (hl : LR W.G env ρ l m) {x : Nat} {xp p : Pos} {it : PE} {b : PSs}
    (h : PostS W env fr L Y ρ (bif nelem fi.locs x then (ih.ev fi l it σ).bindS fun v σ => forV ih fi l x b v σ else .stuck) Q E s) : wpAny (model W.prog W.w) A (exec (toS W.G.nm (.for_ x xp it b p)) env) Q E s := by
  cases z : nelem fi.locs x with
  | false => rw [z] at h; exact h.elim
  | true =>
  rw [z] at h
  refine wpAny_For (So.ev c.toCx S hl (PostS.bind h fun v σ1 ρ1 vv s1 _ p1 S1 r1 h1 => ?_)) (fun v => noFold _ _ _ _)
  obtain ⟨i, xs, rfl, u, h2⟩ := forV_inv h1
  cases r1 with | @ref _ q hp =>
  obtain ⟨us, it', hv, k, hg⟩ := at_lst S1 u hp
  refine wpAny_pyIter_list it' ?_
  obtain ⟨news, X, S1⟩ := S1
  have S2 := S1.alloc (ao := .lit i 0) (o := { cls := .type "list_iterator", data := .fields #[.ref q, .int 0 0] }) (.lit (pre_get (pre_snoc _ _) hp) rfl rfl)
  exact So.fr (E := E) (s := { s1 with heap := _ }) c S2 ((hl.mono p1).mono (pre_snoc _ _)) z (S1.ix _ _) (onlyNext_post (PostS.shift h2 (pre_snoc _ _) _ s1.toks) fun s' q => q)
/-! one turn of the loops -/
theorem while_once {prog : Program} {w : World} {R : Result → Shared → Prop} {test : Expr} {body : List Stmt}
    (h : wpAny (model prog w) A (isTrue test env (eval test env)) (fun b s₂ => if b then wpAny (model prog w) A (execs body env) (fun f s₃ => match f with
            | .next => codeAny (model prog w) A (.whileLoop test body [] env) R s₃
            | _ => False) (fun _ _ => False) s₂ else R (.ok .next) s₂) (fun _ _ => False) s) : codeAny (model prog w) A (.whileLoop test body [] env) R s := by
  refine codeAny_of_tree ?_
  show wpAny _ A ((whileTurn test body [] env).onRaise (fun x => do noteFrame x env; theTreesLotGoes x)) _ _ s
  refine wpAny_noted ?_
  simp only [whileTurn]
  refine wpAny_bind (wpAny_mono h (fun b s₂ h₂ => ?_) fun _ _ h' => h'.elim)
  cases b with
  | false =>
    simp only [Bool.false_eq_true, if_false] at h₂ ⊢
    exact wpAny_bind (wpAny_execs_nil (wpAny_pure h₂))
  | true =>
    simp only [if_true] at h₂ ⊢
    refine wpAny_bind (wpAny_mono h₂ (fun f s₃ h₃ => ?_) fun _ _ h' => h'.elim)
    cases f with
    | next => exact wpAny_pure ⟨rfl, h₃⟩
    | _ => exact h₃.elim
theorem for_once {prog : Program} {w : World} {R : Result → Shared → Prop} {x : PySem.Str} {xp : Pos} {it : Value} {body : List Stmt}
    (h : wpAny (model prog w) A (pyNext it) (fun r s₁ => match r with
      | none => R (.ok .next) s₁
      | some v => wpAny (model prog w) A (storeName env x v) (fun _ s₂ => wpAny (model prog w) A (execs body env) (fun f s₃ => match f with
            | .next => codeAny (model prog w) A (.forLoop (.Name x xp) it body [] env) R s₃
            | _ => False) (fun _ _ => False) s₂) (fun _ _ => False) s₁) (fun _ _ => False) s) : codeAny (model prog w) A (.forLoop (.Name x xp) it body [] env) R s := by
  refine codeAny_of_tree ?_
  show wpAny _ _ ((forTurn (.Name x xp) it body [] env).onRaise (fun x => do noteFrame x env; theTreesLotGoes x)) _ _ s
  refine wpAny_noted ?_
  simp only [forTurn]
  refine wpAny_bind (wpAny_standAt (wpAny_bind (wpAny_onRaise (wpAny_mono h (fun r s₁ h₁ => ?_) fun _ _ h' => h'.elim))))
  cases r with
  | none => exact wpAny_pure ⟨rfl, codeAny_block (wpAny_execs_nil h₁)⟩
  | some v =>
    refine wpAny_bind (wpAny_of_eq (show letOwnedTupleGo (.Name x xp) it v = pure () from rfl) ?_)
    refine wpAny_bind (wpAny_assign_Name (wpAny_mono h₁ (fun _ s₂ h₂ => wpAny_bind (wpAny_mono h₂ (fun f s₃ h₃ => ?_) fun _ _ h' => h'.elim)) fun _ _ h' => h'.elim))
    cases f with
    | next => exact wpAny_pure ⟨rfl, h₃⟩
    | _ => exact h₃.elim
theorem whl_step (So : SoundS W ih) {R : Result → Shared → Prop} (c : Cs W L Y fi env A fr) (S : St W.G W.h₀ L m Y ρ σ s.heap) (hl : LR W.G env ρ l m) {t : PE} {b : PSs}
    (h : PostS W env fr L Y ρ (onlyNext ((step W.tb ih).whl fi l t b σ)) (fun f s' => R (.ok f) s') E s) : codeAny (model W.prog W.w) A (.whileLoop (toE W.G.nm t) (toSs W.G.nm b) [] env) R s := by
  have e : (step W.tb ih).whl fi l t b σ = (match ih.tr fi l t σ with
    | .ok c σ => bif c then turn (ih.exs fi l b σ) fun l σ => onlyNext (ih.whl fi l t b σ) else .next l σ
    | _ => .stuck) := rfl
  rw [e] at h
  refine while_once (So.tr (Q := fun v s₂ => if v then _ else _) c.toCx S hl ?_)
  cases zt : ih.tr fi l t σ with
  | stuck => rw [zt] at h; exact h.elim
  | exc σ' => rw [zt] at h; exact h.elim
  | ok v σ1 =>
    rw [zt] at h
    intro ρ1 b' h1 tk1 p1 S1 hb
    subst hb
    cases v with
    | false =>
      have h : PostS W env fr L Y ρ (.next l σ1) (fun f s' => R (.ok f) s') E s := h
      exact h ρ1 m h1 tk1 p1 S1 (hl.mono p1)
    | true =>
      have h : PostS W env fr L Y ρ (onlyNext (turn (ih.exs fi l b σ1) fun l σ => onlyNext (ih.whl fi l t b σ))) (fun f s' => R (.ok f) s') E s := h
      refine So.exs (s := { s with heap := h1, toks := tk1 }) c S1 (hl.mono p1) ?_
      cases ze : ih.exs fi l b σ1 with
      | next l2 σ2 =>
        rw [ze] at h
        intro ρ2 m2 h2 tk2 p2 S2 hl2
        have hh : PostS W env fr L Y ρ (onlyNext (ih.whl fi l2 t b σ2)) (fun f s' => R (.ok f) s') E s := by
          have : onlyNext (turn (.next l2 σ2) fun l σ => onlyNext (ih.whl fi l t b σ)) = onlyNext (ih.whl fi l2 t b σ2) := by
            show onlyNext (onlyNext _) = _
            cases ih.whl fi l2 t b σ2 <;> rfl
          rw [← this]; exact h
        exact So.whl (E := E) (s := { s with heap := h2, toks := tk2 }) c S2 hl2 (PostS.shift hh (p1.trans p2) h2 tk2)
      | stuck => rw [ze] at h; exact h.elim
      | ret v σ' => rw [ze] at h; exact h.elim
      | exc σ' => rw [ze] at h; exact h.elim
      | rai σ' => rw [ze] at h; exact h.elim
end
end Mine
end

section
set_option maxRecDepth 100000
namespace Mine
open PySem PySem.W PyProof.Rows PySem.Calls PySem.SeqAt
section
variable {W : Wd} {L : Addr} {Y : List (Addr × Obj)} {fi : FI} {env : Env} {A : Around} {fr : List Env} {m : PySem.Str → Option Value} {l : Loc} {σ : Sig} {ρ ρ' : List Addr} {s : Shared} {E E' : Value → Shared → Prop} {ih : Itp} {G : Mn}
  {Q Q' : Flow → Shared → Prop}
theorem onlyNext_idem (o : OutS) : onlyNext (onlyNext o) = onlyNext o := by cases o <;> rfl
/-- an object of the ledger that a rule changes -/
theorem upd_same (S : St W.G W.h₀ L m Y ρ σ s.heap) {i : Nat} {ao ao' : AO} {a : Addr} {o' : Obj} {h' : Heap} (z : look σ i = some ao) (hp : ρ[i]? = some a) (hs : Heap.SameBut a s.heap h') (e : h'.get? a = some o') (ho : OR W.G ρ ao' o') :
    St W.G W.h₀ L m Y ρ (store σ i ao') h' := by
  obtain ⟨news, X, S⟩ := S
  obtain ⟨a', o, g1, g2, g3, g4⟩ := S.upd z
  rw [hp] at g1
  cases g1
  obtain ⟨news', U, fin⟩ := g4 ao' o' ho
  obtain ⟨pre, post, e1, e2, e3, e4⟩ := U.split
  have hm := S.N (a, o) (by rw [e1]; simp)
  refine fin h' (S.F.change hs hm.2.1 hm.2.2) ?_
  rw [e2]
  have := S.N
  rw [e1] at this
  exact news_set this e3 e4 hs e
theorem lit_at (S : St W.G W.h₀ L m Y ρ σ s.heap) {k i j : Nat} {I : Addr} (z : look σ k = some (.lit i j)) (hp : ρ[k]? = some I) : ∃ a, ρ[i]? = some a ∧ s.heap.IsListIter I a j := by
  obtain ⟨news, X, S⟩ := S
  obtain ⟨q, o, h1, h2, h3⟩ := S.at z
  rw [hp] at h1
  cases h1
  cases h3 with | lit ha hc hd => exact ⟨_, ha, _, h2, hc, hd⟩
theorem Rel.dropId {led : Led} {news : List (Addr × Obj)} (R : Rel G ρ led news) {k : Nat} {I : Addr} {ao : AO} (hk : ρ[k]? = some I) (nd : (news.map (·.1)).Nodup) (z : aget led k = some ao) :
    ∃ news', news'.Sublist news ∧ Rel G ρ (keepIf (fun q => !Nat.beq q k) led) news' ∧ ∀ p ∈ news', p.1 ≠ I := by
  induction R with
  | nil => cases z
  | @cons p q led' nw pq rest ih =>
    rw [List.map_cons, List.nodup_cons] at nd
    unfold aget at z
    unfold keepIf
    cases zb : Nat.beq p.1 k with
    | true =>
      have e := Nat.eq_of_beq_eq_true zb
      have e2 : q.1 = I := by
        have := pq.1
        rw [e, hk] at this
        exact (Option.some.inj this).symm
      obtain ⟨nw', s1, r1⟩ := Rel.drop rest (fun q => !Nat.beq q k)
      refine ⟨nw', .cons _ s1, r1, fun x hx hxI => nd.1 ?_⟩
      rw [e2, ← hxI]
      exact List.mem_map_of_mem (s1.subset hx)
    | false =>
      rw [zb] at z
      obtain ⟨nw', s1, r1, r2⟩ := ih nd.2 z
      refine ⟨q :: nw', .cons₂ _ s1, .cons pq r1, fun x hx hxI => ?_⟩
      rcases List.mem_cons.mp hx with rfl | hx
      · obtain ⟨a, o, f1, f2, _⟩ := Rel.find rest z
        rw [hk] at f1
        cases f1
        exact nd.1 (List.mem_map.mpr ⟨_, f2, hxI.symm⟩)
      · exact r2 x hx hxI
theorem St.dropId {h h' : Heap} (S : St W.G W.h₀ L m Y ρ σ h) {k : Nat} {I : Addr} {ao : AO} (z : look σ k = some ao) (hk : ρ[k]? = some I) (he : ∀ b o, b ≠ I → h.get? b = some o → h'.get? b = some o) :
    St W.G W.h₀ L m Y ρ (Mine.dropId σ k) h' := by
  obtain ⟨news, X, S⟩ := S
  have nd := S.nd
  rw [List.map_append, List.nodup_append] at nd
  obtain ⟨nw, s1, r1, r2⟩ := Rel.dropId S.R hk nd.1 z
  obtain ⟨a, o, f1, f2, _⟩ := S.R.find z
  rw [hk] at f1
  cases f1
  have hI := S.N (I, o) (List.mem_append_left _ f2)
  have sub : (nw ++ X).Sublist (news ++ X) := s1.append (List.Sublist.refl _)
  obtain ⟨oL, hoL, nL⟩ := NsOb.of S.F.ns
  refine ⟨nw, X, ⟨S.len, ⟨nL.ns (he _ _ hI.2.1.symm hoL), fun b o hb => he b o (fun q => by rw [q, hI.2.2] at hb; cases hb) (S.F.keep b o hb), S.F.above⟩, fun p hp => ?_, (sub.map _).nodup S.nd, r1, S.X⟩⟩
  have hp' := S.N p (sub.subset hp)
  refine ⟨he _ _ (fun q => ?_) hp'.1, hp'.2⟩
  rcases List.mem_append.mp hp with g | g
  · exact r2 p g q
  · exact nd.2.2 I (List.mem_map.mpr ⟨_, f2, rfl⟩) p.1 (List.mem_map_of_mem g) q.symm
theorem fr_step (So : SoundS W ih) {R : Result → Shared → Prop} (c : Cs W L Y fi env A fr) (S : St W.G W.h₀ L m Y ρ σ s.heap) (hl : LR W.G env ρ l m) {x k : Nat} {xp : Pos} {I : Addr} {b : PSs} (hx : nelem fi.locs x = true) (hI : ρ[k]? = some I)
    (h : PostS W env fr L Y ρ (onlyNext ((step W.tb ih).fr fi l x k b σ)) (fun f s' => R (.ok f) s') E s) : codeAny (model W.prog W.w) A (.forLoop (.Name (W.G.nm x) xp) (.ref I) (toSs W.G.nm b) [] env) R s := by
  have e : (step W.tb ih).fr fi l x k b σ = (match look σ k with
    | some (.lit i j) => match look σ i with
      | some (.lst xs) => match nth xs j with
        | some v => turn (ih.exs fi (aput l x v) b (store σ k (.lit i (j + 1)))) fun l σ => onlyNext (ih.fr fi l x k b σ)
        | none => .next l (dropId σ k)
      | _ => .stuck
    | _ => .stuck) := rfl
  rw [e] at h
  clear e
  split at h
  · rename_i i j zk
    split at h
    · rename_i xs zi
      obtain ⟨a, ha, hit⟩ := lit_at S zk hI
      obtain ⟨us, it, hv, n, hg⟩ := at_lst S zi ha
      refine for_once ?_
      cases zn : nth xs j with
      | none =>
        rw [zn] at h
        have h : PostS W env fr L Y ρ (.next l (dropId σ k)) (fun f s' => R (.ok f) s') E s := h
        rw [nth_get] at zn
        have hn : us.toArray[j]? = none := by
          rw [List.getElem?_toArray]
          rw [List.getElem?_eq_none_iff] at zn ⊢
          rw [hv.len]; exact zn
        refine wpAny_pyNext_list_end c.hd hit it hn fun h' he => ?_
        exact h ρ m h' s.toks (List.prefix_refl _) (St.dropId S zk hI fun b o hb e => he b o hb e) hl
      | some v =>
        rw [zn] at h
        have h : PostS W env fr L Y ρ (onlyNext (turn (ih.exs fi (aput l x v) b (store σ k (.lit i (j + 1)))) fun l σ => onlyNext (ih.fr fi l x k b σ))) (fun f s' => R (.ok f) s') E s := h
        rw [nth_get] at zn
        obtain ⟨y, hy, ry⟩ := hv.get zn
        refine wpAny_pyNext_list_item hit it (x := y) (by simpa using hy) fun h' hit' hs => ?_
        obtain ⟨o', e1, e2, e3⟩ := hit'
        have S1 : St W.G W.h₀ L m Y ρ (store σ k (.lit i (j + 1))) h' := upd_same S zk hI hs e1 (.lit ha e2 e3)
        refine store_sound (s := { s with heap := h' }) c.toCx S1 hl hx ry fun h2 m2 S2 hl2 => ?_
        refine So.exs (s := { s with heap := h2, toks := s.toks + 1 }) c S2 hl2 ?_
        cases ze : ih.exs fi (aput l x v) b (store σ k (.lit i (j + 1))) with
        | next l3 σ3 =>
          rw [ze] at h
          intro ρ3 m3 h3 tk3 p3 S3 hl3
          have hh : PostS W env fr L Y ρ (onlyNext (ih.fr fi l3 x k b σ3)) (fun f s' => R (.ok f) s') E s := by
            have : onlyNext (turn (.next l3 σ3) fun l σ => onlyNext (ih.fr fi l x k b σ)) = onlyNext (ih.fr fi l3 x k b σ3) := onlyNext_idem _
            rw [← this]; exact h
          exact So.fr (E := E) (s := { s with heap := h3, toks := tk3 }) c S3 hl3 hx (pre_get p3 hI) (PostS.shift hh p3 h3 tk3)
        | stuck => rw [ze] at h; exact h.elim
        | ret v σ' => rw [ze] at h; exact h.elim
        | exc σ' => rw [ze] at h; exact h.elim
        | rai σ' => rw [ze] at h; exact h.elim
    · exact h.elim
  · exact h.elim
end
end Mine
end

section
set_option maxRecDepth 100000
namespace Mine
open PySem PySem.W PyProof.Rows PySem.Calls PySem.SeqAt
section
variable {W : Wd} {L : Addr} {Y : List (Addr × Obj)} {fi : FI} {env : Env} {A : Around} {fr : List Env} {m : PySem.Str → Option Value} {l : Loc} {σ : Sig} {ρ ρ' : List Addr} {s : Shared} {E E' : Value → Shared → Prop} {ih : Itp} {G : Mn}
theorem evs_step (So : Sound W ih) (c : Cx W L Y fi env A fr) (S : St W.G W.h₀ L m Y ρ σ s.heap) (hl : LR W.G env ρ l m) {es : PEs} {Q : List Value → Shared → Prop}
    (h : PostO W.G W.C fr W.h₀ L m Y (VRs W.G) ρ ((step W.tb ih).evs fi l es σ) Q E s) : wpAny (model W.prog W.w) A (spliced ((toEs W.G.nm es).map fun e => (false, eval e env))) Q E s := by
  cases es with
  | nil => exact spliced_nil (h.val' S .nil)
  | cons e r =>
    exact spliced_cons (So.ev c S hl (PostO.bind' h fun x σ1 ρ1 xv s1 _ p1 S1 r1 h1 => So.evs c S1 (hl.mono p1) (PostO.bind' h1 fun xs σ2 ρ2 xvs s2 _ p2 S2 r2 h2 => h2.val' S2 (.cons (r1.mono p2) r2))))
theorem truth_sound {C : Addr} {h₀ : Heap} (S : St G h₀ L m Y ρ σ s.heap) {v : AV} {vv : Value} {Q : Bool → Shared → Prop} {M : Model} (r : VR G ρ v vv) (h : PostO G C fr h₀ L m Y (fun _ a b => a = b) ρ (truth v σ) Q E s) :
    wpAny M A (truthy vv) Q E s := by
  cases v with
  | bool b => cases r; exact wpAny_truthy_bool (h.val' S rfl)
  | _ => exact h.elim
theorem tr_gen (So : Sound W ih) (c : Cx W L Y fi env A fr) (S : St W.G W.h₀ L m Y ρ σ s.heap) (hl : LR W.G env ρ l m) {e : PE} {Q : Bool → Shared → Prop}
    (he : isTrue (toE W.G.nm e) env (eval (toE W.G.nm e) env) = (do let v ← eval (toE W.G.nm e) env; standAt (toE W.G.nm e).pos; holding [v] (truthy v)))
    (h : PostO W.G W.C fr W.h₀ L m Y (fun _ a b => a = b) ρ ((ih.ev fi l e σ).bind fun v σ => truth v σ) Q E s) :
    wpAny (model W.prog W.w) A (isTrue (toE W.G.nm e) env (eval (toE W.G.nm e) env)) Q E s :=
  isTrue_plain (So.ev c S hl (PostO.bind' h fun x σ1 ρ1 xv s1 _ p1 S1 r1 h1 => truth_sound S1 r1 h1)) he
theorem tr_step (Sa : Sta W) (So : Sound W ih) (c : Cx W L Y fi env A fr) (S : St W.G W.h₀ L m Y ρ σ s.heap) (hl : LR W.G env ρ l m) {e : PE} {Q : Bool → Shared → Prop}
    (h : PostO W.G W.C fr W.h₀ L m Y (fun _ a b => a = b) ρ ((step W.tb ih).tr fi l e σ) Q E s) :
    wpAny (model W.prog W.w) A (isTrue (toE W.G.nm e) env (eval (toE W.G.nm e) env)) Q E s := by
  cases e with
  | un op a p =>
    cases op with
    | Not =>
      refine isTrue_not (So.tr c S hl (PostO.bind' h fun x σ1 ρ1 xv s1 _ p1 S1 r1 h1 => ?_))
      subst r1
      exact h1.val' S1 rfl
    | _ => exact tr_gen So c S hl rfl h
  | bop op es p => exact So.trs c S hl h _
  | cmp2 a o1 b o2 d p =>
    refine isTrue_chain (So.ev c S hl (PostO.bind' h fun x σ1 ρ1 xv s1 _ p1 S1 r1 h1 => ?_)) (by
      show lastMarks [o1, o2] [toE W.G.nm b, toE W.G.nm d] = false
      exact noMarks _ _ _)
    show wpAny _ A (testChain p xv [o1, o2] [eval (toE W.G.nm b) env, eval (toE W.G.nm d) env]) Q E s1
    refine test_link (So.ev c S1 (hl.mono p1) (PostO.bind' h1 fun y σ2 ρ2 yv s2 _ p2 S2 r2 h2 => ?_))
    cases z : cmpS W.tb σ2 x o1 y with
    | none => rw [z] at h2; exact h2.elim
    | some r =>
      rw [z] at h2
      refine cmpS_sound Sa S2 (r1.mono p2) r2 (by have := c.un; omega) z (wpAny_truthy_bool ?_)
      cases r with
      | false => exact h2.val' S2 rfl
      | true =>
        have h2 : PostO W.G W.C fr W.h₀ L m Y (fun _ a b => a = b) ρ2 ((ih.ev fi l d σ2).bind fun z σ => ofOpt (cmpS W.tb σ y o2 z) σ) Q E s2 := h2
        refine test_last (So.ev c S2 ((hl.mono p1).mono p2) (PostO.bind' h2 fun y3 σ3 ρ3 yv3 s3 _ p3 S3 r3 h3 => ?_))
        obtain ⟨r', z', h4⟩ := PostO.of_some h3
        exact cmpS_sound Sa S3 (r2.mono p3) r3 (by have := c.un; omega) z' (wpAny_truthy_bool (h4.val' S3 rfl))
  | cmp a op b p =>
    refine wpAny_isTrue_Compare1 (So.ev c S hl (PostO.bind' h fun x σ1 ρ1 xv s1 _ p1 S1 r1 h1 => So.ev c S1 (hl.mono p1) (PostO.bind' h1 fun y σ2 ρ2 yv s2 _ p2 S2 r2 h2 => ?_))) (noMarks _ _ _)
    obtain ⟨r', z', h4⟩ := PostO.of_some h2
    exact cmpS_sound Sa S2 (r1.mono p2) r2 (by have := c.un; omega) z' (wpAny_truthy_bool (h4.val' S2 rfl))
  | loc x p => exact tr_gen So c S hl rfl h
  | glb x p => exact tr_gen So c S hl rfl h
  | cel x p => exact tr_gen So c S hl rfl h
  | cst k p => exact tr_gen So c S hl rfl h
  | tup es p => exact tr_gen So c S hl rfl h
  | lst es p => exact tr_gen So c S hl rfl h
  | bin op a b p => exact tr_gen So c S hl rfl h
  | ife t a b p => exact h.elim
  | call f as p => exact tr_gen So c S hl rfl h
  | mcall o n np as p => exact tr_gen So c S hl rfl h
  | att o n p => exact tr_gen So c S hl rfl h
  | sub o i p => exact tr_gen So c S hl rfl h
  | sl1 o a sp p => exact tr_gen So c S hl rfl h
  | sl2 o a b sp p => exact tr_gen So c S hl rfl h
  | comp elt ts tp it ifs sc p => exact tr_gen So c S hl rfl h
theorem trs_step (So : Sound W ih) (c : Cx W L Y fi env A fr) (S : St W.G W.h₀ L m Y ρ σ s.heap) (hl : LR W.G env ρ l m) {op : BoolOp} {es : PEs} {p : Pos} {Q : Bool → Shared → Prop}
    (h : PostO W.G W.C fr W.h₀ L m Y (fun _ a b => a = b) ρ ((step W.tb ih).trs op fi l es σ) Q E s) (whole : Sem Value) :
    wpAny (model W.prog W.w) A (isTrue (.BoolOp op (toEs W.G.nm es) p) env whole) Q E s := by
  cases es with
  | nil =>
    cases op with
    | And => exact isTrue_and_nil (h.val' S rfl)
    | Or => exact isTrue_or_nil (h.val' S rfl)
  | cons e r =>
    cases op with
    | And =>
      refine isTrue_and (So.tr c S hl (PostO.bind' h fun x σ1 ρ1 xv s1 _ p1 S1 r1 h1 => ?_))
      subst r1
      cases x with
      | true => exact So.trs c S1 (hl.mono p1) h1 _
      | false => exact h1.val' S1 rfl
    | Or =>
      refine isTrue_or (So.tr c S hl (PostO.bind' h fun x σ1 ρ1 xv s1 _ p1 S1 r1 h1 => ?_))
      subst r1
      cases x with
      | true => exact h1.val' S1 rfl
      | false => exact So.trs c S1 (hl.mono p1) h1 _
theorem exs_step (So : SoundS W ih) (c : Cs W L Y fi env A fr) (S : St W.G W.h₀ L m Y ρ σ s.heap) (hl : LR W.G env ρ l m) {ss : PSs} {Q : Flow → Shared → Prop}
    (h : PostS W env fr L Y ρ ((step W.tb ih).exs fi l ss σ) Q E s) : wpAny (model W.prog W.w) A (execs (toSs W.G.nm ss) env) Q E s := by
  cases ss with
  | nil => exact wpAny_execs_nil (h ρ m s.heap s.toks (List.prefix_refl _) S hl)
  | cons st r =>
    have e : (step W.tb ih).exs fi l (.cons st r) σ = (match ih.ex fi l st σ with
      | .next l σ => ih.exs fi l r σ
      | r => r) := rfl
    rw [e] at h
    refine wpAny_execs_cons (So.ex c S hl ?_)
    cases z : ih.ex fi l st σ with
    | stuck => rw [z] at h; exact h.elim
    | next l1 σ1 =>
      rw [z] at h
      intro ρ1 m1 h1 tk1 p1 S1 hl1
      exact So.exs (s := { s with heap := h1, toks := tk1 }) c S1 hl1 (PostS.shift h p1 h1 tk1)
    | ret v σ1 => rw [z] at h; exact h
    | exc σ1 => rw [z] at h; exact h
    | rai σ1 => rw [z] at h; exact h
end
end Mine
end

section
set_option maxRecDepth 100000
namespace Mine
open PySem PySem.W PyProof.Rows PySem.Calls PySem.SeqAt
section
variable {W : Wd} {L : Addr} {Y : List (Addr × Obj)} {fi : FI} {env : Env} {A : Around} {fr : List Env} {m : PySem.Str → Option Value} {l : Loc} {σ : Sig} {ρ ρ' : List Addr} {s : Shared} {E E' : Value → Shared → Prop} {ih : Itp} {G : Mn}
theorem slotty_slots {o : Obj} {sl} : Slotty { o with slots := sl } ↔ Slotty o := Iff.rfl
theorem XR.up {h h' : Heap} (up : h.UpToSlots h') : ∀ {Y X : List (Addr × Obj)}, XR Y X → (∀ p ∈ X, h.get? p.1 = some p.2) → (∀ p ∈ X, ¬ Slotty p.2 → h'.get? p.1 = some p.2) →
    ∃ X', XR Y X' ∧ (∀ p ∈ X', h'.get? p.1 = some p.2) ∧ X'.map (·.1) = X.map (·.1) ∧ ∀ p ∈ X', ¬ Slotty p.2 → p ∈ X := by
  intro Y X x
  induction x with
  | nil => intro _ _; exact ⟨[], .nil, (fun p hp => (nomatch hp)), rfl, (fun p hp => (nomatch hp))⟩
  | @cons y x ys xs r _ ih =>
    intro hx hb
    obtain ⟨X', r1, r2, r3, r4⟩ := ih (fun p hp => hx p (.tail _ hp)) (fun p hp => hb p (.tail _ hp))
    by_cases sx : Slotty x.2
    · have sy : Slotty y.2 := by
        rcases r.2 with q | ⟨q, _⟩
        · rw [← q]; exact sx
        · exact q
      obtain ⟨sl, e⟩ := up x.1 x.2 (hx x (.head _)) (fun vs q => by
        rcases sx with ⟨es, n, e⟩ | ⟨v, e⟩
        · rw [e] at q; cases q
        · rw [e] at q; cases q)
      refine ⟨(x.1, { x.2 with slots := sl }) :: X', .cons ⟨r.1, .inr ⟨sy, sl, ?_⟩⟩ r1, fun p hp => ?_, by rw [List.map_cons, List.map_cons, r3], fun p hp ns => ?_⟩
      · show ({ x.2 with slots := sl } : Obj) = { y.2 with slots := sl }
        rcases r.2 with q | ⟨_, sl', q⟩
        · rw [q]
        · rw [q]
      · rcases List.mem_cons.mp hp with rfl | hp
        · exact e
        · exact r2 p hp
      · rcases List.mem_cons.mp hp with rfl | hp
        · exact absurd sx ns
        · exact .tail _ (r4 p hp ns)
    · refine ⟨x :: X', .cons r r1, fun p hp => ?_, by rw [List.map_cons, List.map_cons, r3], fun p hp ns => ?_⟩
      · rcases List.mem_cons.mp hp with rfl | hp
        · exact hb _ (.head _) sx
        · exact r2 p hp
      · rcases List.mem_cons.mp hp with rfl | hp
        · exact .head _
        · exact .tail _ (r4 p hp ns)
theorem StW.up {h₀ h h' B : Heap} {news X : List (Addr × Obj)} (S : StW G h₀ L m Y ρ σ h news X) (b1 : h₀.StaysIn B) (b2 : ∀ p ∈ news, B.get? p.1 = some p.2) (b2' : ∀ p ∈ X, ¬ Slotty p.2 → B.get? p.1 = some p.2) (b3 : B.StaysIn h') (up : h.UpToSlots h') :
    ∃ X', StW G h₀ L m Y ρ σ h' news X' ∧ ∀ p ∈ X', ¬ Slotty p.2 → B.get? p.1 = some p.2 := by
  obtain ⟨X', r1, r2, r3, r4⟩ := XR.up up S.X (fun p hp => (S.N p (List.mem_append_right _ hp)).1) (fun p hp ns => b3 _ _ (b2' p hp ns))
  refine ⟨X', ⟨S.len, ⟨up.ns S.F.ns, fun b o e => b3 b o (b1 b o e), S.F.above⟩, fun p hp => ?_, ?_, S.R, r1⟩, fun p hp ns => b2' p (r4 p hp ns) ns⟩
  · rcases List.mem_append.mp hp with g | g
    · exact ⟨b3 _ _ (b2 p g), (S.N p (List.mem_append_left _ g)).2⟩
    · refine ⟨r2 p g, ?_⟩
      have : p.1 ∈ X.map (·.1) := by rw [← r3]; exact List.mem_map_of_mem g
      obtain ⟨q, hq, e⟩ := List.mem_map.mp this
      have := (S.N q (List.mem_append_right _ hq)).2
      rw [e] at this
      exact this
  · have := S.nd
    rw [List.map_append] at this ⊢
    rw [r3]; exact this
theorem StW.dropW {h₀ h : Heap} {news X : List (Addr × Obj)} (S : StW G h₀ L m Y ρ σ h news X) (old : Nat) (v : AV) : ∃ nw, nw.Sublist news ∧ StW G h₀ L m Y ρ (Mine.drop old v σ) h nw X := by
  obtain ⟨f, e⟩ := drop_eq old v σ
  rw [e]
  obtain ⟨nw, hs, R⟩ := S.R.dropNew old f
  have hs' : (nw ++ X).Sublist (news ++ X) := hs.append (List.Sublist.refl _)
  exact ⟨nw, hs, S.len, S.F, fun p hp => S.N p (hs'.subset hp), (hs'.map _).nodup S.nd, R, S.X⟩
/-- a flying exception leaves a call -/
theorem Fly.out {L' : Addr} {m' : PySem.Str → Option Value} {oL : Obj} {h h' B : Heap} {e : Addr} {a0 : Value} {news X : List (Addr × Obj)} (S : StW W.G W.h₀ L' m' ((L, oL) :: Y) ρ σ h news X) (nL : NsOb oL m) (hab : W.h₀.objs.size ≤ L)
    (b1 : W.h₀.StaysIn B) (b2 : ∀ p ∈ news, B.get? p.1 = some p.2) (b2' : ∀ p ∈ X, ¬ Slotty p.2 → B.get? p.1 = some p.2) (hf : Heap.FlyingW B fr e (.ref W.C) a0 h') (up : h.UpToSlots h') (old : Nat) :
    Fly W.G W.C fr W.h₀ L m Y ρ (Mine.drop old .none σ) e h' := by
  obtain ⟨X1, S1, x1⟩ := S.up b1 b2 b2' hf.1 up
  obtain ⟨X2, S2, _, _, x2⟩ := S1.leave nL hab
  obtain ⟨nw, hs, S3⟩ := S2.dropW old .none
  exact ⟨nw, X2, B, a0, S3, b1, fun p hp => b2 p (hs.subset hp), fun p hp ns => x1 p (x2 p hp) ns, hf⟩
theorem cl_step (Sa : Sta W) (So : SoundS W ih) {R : Result → Shared → Prop} {n k : Nat} (c : Cc W L Y A fr n) (S : St W.G W.h₀ L m Y ρ σ s.heap) {as : List AV} {xs : List Value} (ha : VRs W.G ρ as xs)
    (h : PostO W.G W.C fr W.h₀ L m Y (VR W.G) ρ ((step W.tb ih).cl n k as σ) (fun v s' => R (.ok (.ret v)) s') (fun e s' => R (.error e) s') s) :
    codeAny (model W.prog W.w) A (.call (.ref (W.G.fA k)) ⟨xs, []⟩) R s := by
  have e : (step W.tb ih).cl n k as σ = (match aget W.tb.fnT k with
    | some R => match zipP R.params as R.dflts with
      | some l => clOut σ.nxt (ih.exs ⟨R.locs, R.glbs, n, []⟩ l R.body σ)
      | none => .stuck
    | none => .stuck) := rfl
  rw [e] at h
  clear e
  cases zR : aget W.tb.fnT k with
  | none => rw [zR] at h; exact h.elim
  | some Rr =>
  rw [zR] at h
  have h : PostO W.G W.C fr W.h₀ L m Y (VR W.G) ρ (match zipP Rr.params as Rr.dflts with
      | some l => clOut σ.nxt (ih.exs ⟨Rr.locs, Rr.glbs, n, []⟩ l Rr.body σ)
      | none => .stuck) (fun v s' => R (.ok (.ret v)) s') (fun e s' => R (.error e) s') s := h
  cases zl : zipP Rr.params as Rr.dflts with
  | none => rw [zl] at h; exact h.elim
  | some l =>
  rw [zl] at h
  have h : PostO W.G W.C fr W.h₀ L m Y (VR W.G) ρ (clOut σ.nxt (ih.exs ⟨Rr.locs, Rr.glbs, n, []⟩ l Rr.body σ)) (fun v s' => R (.ok (.ret v)) s') (fun e s' => R (.error e) s') s := h
  obtain ⟨o, fd, Fk⟩ := Sa.fn k Rr zR
  have F : Fr W.h₀ L s.heap m := by obtain ⟨_, _, S⟩ := S; exact S.F
  have KI := St.KIn Sa S
  obtain ⟨binds, hb, hloc, hl⟩ := Fk.bind zl ha KI
  refine codeAny_call_def (fd := fd) (body := toSs W.G.nm Rr.body) (binds := binds) (by have := c.dp; omega) (KI _ _ Fk.lk) Fk.dt (Sa.T.nolimit.keeps F.keep) (codeRec_of KI Fk.code) Fk.body hb Fk.cell hloc (fun h₁ hns hk₁ => ?_) Fk.co Fk.gen Fk.kind
  obtain ⟨oL, nL, S'⟩ := S.enter hns (Nat.le_refl _) hk₁
  have hab := S.above
  have fe : (callEnv fd s.heap.objs.size (W.G.fA k)).frame = some s.heap.objs.size := rfl
  have ffr : (A.deeper (callEnv fd s.heap.objs.size (W.G.fA k))).frames = some (callEnv fd s.heap.objs.size (W.G.fA k) :: fr) := by
    show A.frames.map _ = _
    rw [c.fs]; rfl
  have C : Cs W s.heap.objs.size ((L, oL) :: Y) ⟨Rr.locs, Rr.glbs, n, []⟩ (callEnv fd s.heap.objs.size (W.G.fA k)) (A.deeper (callEnv fd s.heap.objs.size (W.G.fA k))) (callEnv fd s.heap.objs.size (W.G.fA k) :: fr) :=
    { fk := Fk.kind
      lo := rfl
      gl := Fk.gl
      bu := Fk.bu
      li := fun x hx => Fk.locs x hx
      gi := fun x hx => Fk.glbs x hx
      un := by have := c.un; show A.units + 3 + 200 * n + 100 < cLine; omega
      hd := c.hd
      dp := by have := c.dp; show A.depth + 1 + 8 * n + 4 < recursionLimit; omega
      fs := ffr
      ff := fun e' he => by
        rcases List.mem_cons.mp he with rfl | he
        · exact ⟨(fun q => by rw [show (callEnv fd s.heap.objs.size (W.G.fA k)).scope.kind = .function from Fk.kind] at q; cases q), _, fe, .inl rfl⟩
        · obtain ⟨k1, a, k2, k3⟩ := c.ff e' he
          refine ⟨k1, a, k2, .inr ?_⟩
          rcases k3 with rfl | ⟨o', es, n', k3, k4⟩
          · obtain ⟨es, n', e⟩ := nL.isDict
            exact ⟨oL, es, n', .head _, e⟩
          · exact ⟨o', es, n', .tail _ k3, k4⟩
      ce := fun x a e => (by cases e)
      ef := fe
      fe := ⟨fr, rfl⟩ }
  have hl' : LR W.G (callEnv fd s.heap.objs.size (W.G.fA k)) ρ l (fun x => binds.reverse.lookup x) := fun x a ex => by
    obtain ⟨v, e1, e2, e3⟩ := hl x a ex
    exact ⟨e3, v, e1, e2⟩
  refine So.exs (s := { s with heap := h₁, toks := s.toks + binds.length }) C S' hl' ?_
  cases ze : ih.exs ⟨Rr.locs, Rr.glbs, n, []⟩ l Rr.body σ with
  | stuck => rw [ze] at h; exact h.elim
  | next l1 σ1 =>
    rw [ze] at h
    intro ρ1 m1 h1 tk1 p1 S1 hl1
    exact h ρ1 .none h1 tk1 p1 ((S1.leave nL hab).drop _ _) .none
  | ret v σ1 =>
    rw [ze] at h
    intro ρ1 m1 vv h1 tk1 p1 S1 r1
    exact h ρ1 vv h1 tk1 p1 ((S1.leave nL hab).drop _ _) r1
  | exc σ1 =>
    rw [ze] at h
    intro ρ1 m1 e h1 tk1 p1 fl
    obtain ⟨news, X, B, a0, S1, b1, b2, b2', ff⟩ := fl
    exact wpAny_leaves_onW (s := { s with heap := h1, toks := tk1 }) ffr fe ff fun h2 f2 up => h ρ1 e h2 tk1 p1 (Fly.out S1 nL hab b1 b2 b2' f2 up _)
  | rai σ1 =>
    rw [ze] at h
    intro ρ1 m1 e h1 tk1 p1 ra
    obtain ⟨news, X, B, oe, vs, a0, S1, b1, b2, b2', b3, b4, b5, b6, b7, b8, b9, b10⟩ := ra
    refine wpAny_leaving_firstW (s := { s with heap := h1, toks := tk1 }) ffr b5 fe b6 b3 b4 b8 b10 b9 fun h2 lf => ?_
    obtain ⟨k1, ⟨_, _, k2⟩, k3, k4⟩ := lf
    rw [b7] at k3
    exact h ρ1 e h2 tk1 p1 (Fly.out S1 nL hab b1 b2 b2' ⟨k1, b4, k2, k3⟩ k4 _)
end
end Mine
end

section
set_option maxRecDepth 100000
namespace Mine
open PySem PySem.W PyProof.Rows PySem.Calls PySem.SeqAt
/-- the making of an exception of the program's class -/
noncomputable def NewExcOk (W : Wd) : Prop := ∀ {L Y A fr n m σ ρ s x t} {Q : Value → Shared → Prop} {E : Value → Shared → Prop}, Cc W L Y A fr n → St W.G W.h₀ L m Y ρ σ s.heap → x.length ≤ 1000 →
  (∀ h' tk e ta dx, (∀ b o, s.heap.get? b = some o → h'.get? b = some o) → s.heap.get? e = none → h'.get? e = some { cls := .ref W.C, dict := some dx, data := .fields #[.ref ta, .none, .none, .none, .bool false, .none] } →
    Q (.ref e) { s with heap := h', toks := tk }) → wpAny (model W.prog W.w) A (call (.ref W.C) [.str x t]) Q E s
/-- its class -/
structure ExcCls (W : Wd) : Prop where
  cA : W.G.cA 1000 = W.C
  keep : keepIn W.K (.ref W.C) = true
  obj : ∃ nm q N bs bm hdct sn sub ab col dd k0 k1 k2 k3 k5 newId, W.h₀.get? W.C = some (excClassObj nm q W.C N bs bm hdct sn sub ab col dd k0 k1 k2 k3 k5 newId) ∧ bm.contains (.type "BaseException") = true
section
variable {W : Wd} {L : Addr} {Y : List (Addr × Obj)} {fi : FI} {env : Env} {A : Around} {fr : List Env} {m : PySem.Str → Option Value} {l : Loc} {σ : Sig} {ρ ρ' : List Addr} {s : Shared} {E E' : Value → Shared → Prop} {ih : Itp} {G : Mn}
  {Q : Flow → Shared → Prop}
theorem raise_inst {M : Model} {nm q : PySem.Str} {C N : Addr} {bs bm : List Value} {hdct : Bool} {sn : List PySem.Str} {sub : List Value} {ab : Bool} {col : Option Bool} {dd : Option Addr} {k0 k1 k2 k3 k5 : Option Value} {newId : String}
    {s : Shared} {x : Sem Value} (hbase : bm.contains (.type "BaseException") = true) (hh : A.handled = none)
    (h : wpAny M A x (fun v s₁ => ∃ e t dx, v = .ref e ∧ s₁.heap.get? C = some (excClassObj nm q C N bs bm hdct sn sub ab col dd k0 k1 k2 k3 k5 newId) ∧
      s₁.heap.get? e = some { cls := .ref C, dict := some dx, data := .fields #[.ref t, .none, .none, .none, .bool false, .none] } ∧ E (.ref e) s₁) E s) :
    wpAny M A (raiseStmt env (some x) none) Q E s := by
  have hcB : (Value.ref C :: bm).contains (.type "BaseException") = true := by rw [List.contains_cons, hbase, Bool.or_true]
  unfold raiseStmt
  refine wpAny_bind (wpAny_mono h (fun v s₁ h₁ => ?_) fun _ _ x => x)
  obtain ⟨e, t, dx, rfl, hC, he, hE⟩ := h₁
  obtain ⟨hp, g, d, tk, os⟩ := s₁
  repeat (first | with_reducible refine wpAny_loadPart_at he ?_ | with_reducible refine wpAny_loadPart_at hC ?_ | (with_reducible refine wpAny_isSubtype_exc hC ?_; rw [hcB]) | wp_step)
  exact wpAny_raiseNew_none hh hE
theorem frames_ok {B h : Heap} : ∀ {fr : List Env}, (∀ e ∈ fr, e.scope.kind ≠ .module ∧ ∃ a o, e.frame = some a ∧ B.get? a = none ∧ h.get? a = some o ∧ ∀ vs, o.data ≠ .fields vs) → h.FunFrames B fr
  | [], _ => trivial
  | e :: r, hy => by
    obtain ⟨k, a, o, h1, h2, h3, h4⟩ := hy e (.head _)
    exact ⟨k, ⟨a, o, h1, h2, h3, h4⟩, frames_ok fun e he => hy e (.tail _ he)⟩
noncomputable def slotB (o : Obj) : Bool := match o.data with
  | .dict _ _ => true
  | .cell _ => true
  | _ => false
theorem slotB_iff {o : Obj} : slotB o = true ↔ Slotty o := by
  constructor
  · intro h
    unfold slotB at h
    split at h
    · rename_i es n e; exact .inl ⟨es, n, e⟩
    · rename_i v e; exact .inr ⟨v, e⟩
    · cases h
  · intro h
    unfold slotB
    rcases h with ⟨es, n, e⟩ | ⟨v, e⟩ <;> rw [e]
/-- the frames among the objects beside -/
noncomputable def hid (L : Addr) (X : List (Addr × Obj)) : List Addr := L :: (X.filter fun p => slotB p.2).map (·.1)
theorem hid_mem {X : List (Addr × Obj)} {b : Addr} (h : b ∈ hid L X) : b = L ∨ ∃ p ∈ X, Slotty p.2 ∧ p.1 = b := by
  rcases List.mem_cons.mp h with q | q
  · exact .inl q
  · obtain ⟨p, hp, e⟩ := List.mem_map.mp q
    obtain ⟨h1, h2⟩ := List.mem_filter.mp hp
    exact .inr ⟨p, h1, slotB_iff.mp h2, e⟩
theorem hid_of {X : List (Addr × Obj)} {p : Addr × Obj} (h : p ∈ X) (hs : Slotty p.2) : p.1 ∈ hid L X :=
  .tail _ (List.mem_map.mpr ⟨p, List.mem_filter.mpr ⟨h, slotB_iff.mpr hs⟩, rfl⟩)
theorem mkRai (c : Cs W L Y fi env A fr) {h h' : Heap} (S : St W.G W.h₀ L m Y ρ σ h) (k : ∀ b o, h.get? b = some o → h'.get? b = some o) {e : Addr} {oe : Obj} {vs : Array Value} {a0 : Value} (hn : h.get? e = none)
    (he : h'.get? e = some oe) (hc : oe.cls = .ref W.C) (hd : oe.data = .fields vs) (h0 : vs[0]? = some a0) (h1 : vs[1]? = some .none) : Rai W fr L m Y ρ σ e h' := by
  obtain ⟨news, X, S⟩ := S
  have hnd := S.nd
  rw [List.map_append, List.nodup_append] at hnd
  have notin : ∀ p ∈ news, p.1 ∉ hid L X := fun p hp q => by
    rcases hid_mem q with q | ⟨x, hx, _, q⟩
    · exact (S.N p (List.mem_append_left _ hp)).2.1 q
    · exact hnd.2.2 p.1 (List.mem_map_of_mem hp) x.1 (List.mem_map_of_mem hx) q.symm
  have notinX : ∀ p ∈ X, ¬ Slotty p.2 → p.1 ∉ hid L X := fun p hp ns q => by
    rcases hid_mem q with q | ⟨x, hx, sx, q⟩
    · exact (S.N p (List.mem_append_right _ hp)).2.1 q
    · have e1 := (S.N p (List.mem_append_right _ hp)).1
      have e2 := (S.N x (List.mem_append_right _ hx)).1
      rw [q, e1] at e2
      rw [Option.some.inj e2] at ns
      exact ns sx
  have notin0 : ∀ b o, W.h₀.get? b = some o → b ∉ hid L X := fun b o hb q => by
    rcases hid_mem q with q | ⟨x, hx, _, q⟩
    · rw [q] at hb
      exact Nat.lt_irrefl _ (Nat.lt_of_lt_of_le (Heap.lt_size hb) S.F.above)
    · have := (S.N x (List.mem_append_right _ hx)).2.2
      rw [q, hb] at this
      cases this
  refine ⟨news, X, hideAll h (hid L X), oe, vs, a0, S.keeps k, fun b o hb => hideAll_get _ (S.F.keep b o hb) (notin0 b o hb), fun p hp => hideAll_get _ (S.N p (List.mem_append_left _ hp)).1 (notin p hp),
    fun p hp ns => hideAll_get _ (S.N p (List.mem_append_right _ hp)).1 (notinX p hp ns), fun b o hb => k b o (of_hideAll _ hb), ?_, ?_, he, hc, hd, h0, h1⟩
  · cases q : (hideAll h (hid L X)).get? e with
    | none => rfl
    | some o => rw [of_hideAll _ q] at hn; cases hn
  · refine frames_ok fun e' he' => ?_
    obtain ⟨kk, a, k2, k3⟩ := c.ff e' he'
    rcases k3 with rfl | ⟨o, es, ep, k3, ed⟩
    · obtain ⟨oL, hoL, nL⟩ := NsOb.of S.F.ns
      obtain ⟨es, ep, ed⟩ := nL.isDict
      exact ⟨kk, a, oL, k2, hideAll_none _ (.head _), k _ _ hoL, fun vs q => by rw [ed] at q; cases q⟩
    · obtain ⟨o', g1, g2⟩ := S.X.mem k3
      have od : o'.data = .dict es ep := by
        rcases g2 with g2 | ⟨_, sl, g2⟩
        · rw [g2]; exact ed
        · rw [g2]; exact ed
      have hm : a ∈ hid L X := hid_of (p := (a, o')) g1 (.inl ⟨es, ep, od⟩)
      exact ⟨kk, a, o', k2, hideAll_none _ hm, k _ _ (S.N _ (List.mem_append_right _ g1)).1, fun vs q => by rw [od] at q; cases q⟩
theorem ex_rais (Sa : Sta W) (Nx : NewExcOk W) (Xc : ExcCls W) (So : Sound W ih) (c : Cs W L Y fi env A fr) (S : St W.G W.h₀ L m Y ρ σ s.heap) (hl : LR W.G env ρ l m) {x : Nat} {xp cp p : Pos} {a : PE}
    (h : PostS W env fr L Y ρ (raisV W.tb ih fi l x xp a σ) Q E s) : wpAny (model W.prog W.w) A (exec (toS W.G.nm (.rais (.call (.glb x xp) (.cons a .nil) cp) p)) env) Q E s := by
  unfold raisV at h
  cases hc : fi.cc with
  | zero => rw [hc] at h; exact h.elim
  | succ n =>
  rw [hc] at h
  have h : PostS W env fr L Y ρ ((ih.ev fi l (.glb x xp) σ).bindS fun f σ => bif isExc f then (ih.ev fi l a σ).bindS fun v σ => raiS v σ else .stuck) Q E s := h
  obtain ⟨nm, q, N, bs, bm, hdct, sn, sub, ab, col, dd, k0, k1, k2, k3, k5, newId, hC, hbase⟩ := Xc.obj
  show wpAny _ _ (exec (.Raise (some (.Call (.Name (W.G.nm x) xp) (toEs W.G.nm (.cons a .nil)) [] cp)) none p) env) Q E s
  rw [arm_exec_Raise]
  show wpAny _ _ (do standAt p; raiseStmt env (some (do let v ← eval (.Call (.Name (W.G.nm x) xp) (toEs W.G.nm (.cons a .nil)) [] cp) env; standAt p; pure v)) none) Q E s
  refine wpAny_bind (wpAny_standAt (raise_inst (C := W.C) hbase c.hd (wpAny_bind (wpAny_mono (Q := fun v s₁ => ∃ e t dx, v = .ref e ∧ s₁.heap.get? W.C = some (excClassObj nm q W.C N bs bm hdct sn sub ab col dd k0 k1 k2 k3 k5 newId) ∧
      s₁.heap.get? e = some { cls := .ref W.C, dict := some dx, data := .fields #[.ref t, .none, .none, .none, .bool false, .none] } ∧ E (.ref e) s₁) ?_ (fun v s₁ h₁ => wpAny_bind (wpAny_standAt (wpAny_pure h₁))) fun _ _ x => x))))
  refine Call_Name (starEach_plain _ _ _ (.cons a .nil)) (So.ev (e := .glb x xp) c.toCx S hl (PostS.bind h fun f σ1 ρ1 fv s1 e1 p1 S1 r1 h1 => ?_))
  cases ze : isExc f with
  | false => rw [ze] at h1; exact h1.elim
  | true =>
  rw [ze] at h1
  have h1 : PostS W env fr L Y ρ1 ((ih.ev fi l a σ1).bindS fun v σ => raiS v σ) Q E s1 := h1
  obtain rfl : f = .cls 1000 := by
    unfold isExc at ze
    split at ze
    · rfl
    · cases ze
  cases r1
  rw [Xc.cA]
  refine callWith_k Xc.keep ?_
  refine spliced_cons (So.ev c.toCx S1 (hl.mono p1) (PostS.bind h1 fun v σ2 ρ2 vv s2 e2 p2 S2 r2 h2 => spliced_nil ⟨St.KIn Sa S2, ?_⟩))
  cases v with
  | str t =>
    cases r2 with | str _ k =>
    have h2 : PostS W env fr L Y ρ2 (bif small t.length then .rai σ2 else .stuck) Q E s2 := h2
    cases zs : small t.length with
    | false => rw [zs] at h2; exact h2.elim
    | true =>
      rw [zs] at h2
      have F2 : Fr W.h₀ L s2.heap m := by obtain ⟨_, _, S2⟩ := S2; exact S2.F
      refine Nx (c.toCx.cc (c := n) (by omega)) S2 (by simpa [PySem.Str.length] using small_le zs) fun h' tk e ta dx kp hn he => ?_
      exact ⟨e, ta, dx, rfl, kp _ _ (F2.keep _ _ hC), he, h2 ρ2 m e h' tk (List.prefix_refl _) (mkRai c S2 kp hn he rfl rfl rfl rfl)⟩
  | _ => exact h2.elim
theorem glbA (Sa : Sta W) (c : Cx W L Y fi env A fr) {A' : Around} {M : Model} {x : Nat} {p : Pos} {a : AV} {Q : Value → Shared → Prop} (F : Fr W.h₀ L s.heap m) (z : nelem fi.glbs x = true) (ea : aget W.tb.gT x = some a) (h : ∀ v, VR W.G [] a v → Q v s) :
    wpAny M A' (eval (.Name (W.G.nm x) p) env) Q E s := by
  have hg : s.heap.Ns env.globals W.mg := by rw [c.gl]; exact Sa.T.g.keeps F.keep
  have hb : s.heap.Ns env.builtins W.mb := by rw [c.bu]; exact Sa.T.b.keeps F.keep
  rcases Sa.glob x a ea with ⟨val, e1, r⟩ | ⟨e1, e2, val, e3, r⟩
  · exact Name_function_global c.fk (c.gi x z) (loadGlobal_global hg (mg_of Sa.X₀ Sa.T.g e1) (h _ (r []))) (Sa.nd x)
  · exact Name_function_global c.fk (c.gi x z) (loadGlobal_builtin hg (mg_none_of Sa.X₀ Sa.T.g e1) hb ((Sa.T.builtins _ e2).trans e3) (h _ (r []))) (Sa.nd x)
theorem ex_tri (Sa : Sta W) (Xc : ExcCls W) (So : SoundS W ih) (c : Cs W L Y fi env A fr) (S : St W.G W.h₀ L m Y ρ σ s.heap) (hl : LR W.G env ρ l m) {x : Nat} {k : PC} {xp kp rp hp p : Pos} {b : PSs}
    (h : PostS W env fr L Y ρ (triV W.tb fi x k (ih.exs fi l b σ)) Q E s) : wpAny (model W.prog W.w) A (exec (toS W.G.nm (.tri b (.glb x xp) (.cons (.ret (.cst k kp) rp) .nil) hp p)) env) Q E s := by
  refine wpAny_Try_except (So.exs c S hl ?_)
  cases ze : ih.exs fi l b σ with
  | stuck => rw [ze] at h; exact h.elim
  | next l1 σ1 => rw [ze] at h; exact h.elim
  | rai σ1 => rw [ze] at h; exact h.elim
  | ret v σ1 =>
    rw [ze] at h
    intro ρ1 m1 vv h1 tk1 p1 S1 r1
    exact h ρ1 m1 vv h1 tk1 p1 S1 r1
  | exc σ1 =>
    rw [ze] at h
    have h : PostS W env fr L Y ρ (match aget W.tb.gT x with
      | some f => bif nelem fi.glbs x && isExc f then .ret (constV k) σ1 else .stuck
      | none => .stuck) Q E s := h
    cases zg : aget W.tb.gT x with
    | none => rw [zg] at h; exact h.elim
    | some f =>
    rw [zg] at h
    cases zi : (nelem fi.glbs x && isExc f) with
    | false => simp only [zi, cond_false] at h; exact h.elim
    | true =>
    simp only [zi, cond_true] at h
    obtain ⟨z1, z2⟩ := and3 zi
    obtain rfl : f = .cls 1000 := by
      unfold isExc at z2
      split at z2
      · rfl
      · cases z2
    obtain ⟨outer, hfr⟩ := c.fe
    subst hfr
    intro ρ1 m1 e h1 tk1 p1 fl
    obtain ⟨news, X, B, a0, S1, b1, b2, b2', ff⟩ := fl
    obtain ⟨nm, q, N, bs, bm, hdct, sn, sub, ab, col, dd, k0, k1, k2, k3, k5, newId, hC, hbase⟩ := Xc.obj
    refine wpAny_looks_onW (s := { s with heap := h1, toks := tk1 }) c.fs c.ef ff fun h4 held up4 => ?_
    refine wpAny_landsW (s := { s with heap := h4, toks := tk1 }) held fun h5 fl5 up5 => ?_
    obtain ⟨X5, S5, _⟩ := S1.up b1 b2 b2' fl5.1 (up4.trans up5)
    obtain ⟨ob, hob, hobc⟩ := fl5.there
    refine wpAny_handleBy_cons (codeAny_handlers_test (glbA (s := { s with heap := h5, toks := tk1 }) Sa c.toCx S5.F z1 zg fun v rv => ?_)) (by intro q; cases q)
    cases rv
    rw [Xc.cA]
    refine wpAny_excMatches_sub_self (S5.F.keep _ _ hC) hob hobc hbase (codeAny_handlers_suite ?_)
    refine lands_againW (s := { s with heap := h5, toks := tk1 }) fl5 fun h6 fl6 up6 => ?_
    obtain ⟨X6, S6, _⟩ := S1.up b1 b2 b2' fl6.1 ((up4.trans up5).trans up6)
    refine wpAny_execs_cons (wpAny_Return_some (ev_cst (fr := env :: outer) (s := { s with heap := h6, toks := tk1 }) ⟨news, X6, S6⟩ ?_))
    intro ρ2 vv h7 tk7 p2 S7 r7
    exact h ρ2 m1 vv h7 tk7 (p1.trans p2) S7 r7
end
end Mine
end

section
set_option maxRecDepth 100000
namespace Mine
open PySem PySem.W PyProof.Rows PySem.Calls PySem.SeqAt
section
variable {W : Wd} {L : Addr} {Y : List (Addr × Obj)} {fi : FI} {env : Env} {A : Around} {fr : List Env} {m : PySem.Str → Option Value} {l : Loc} {σ : Sig} {ρ ρ' : List Addr} {s : Shared} {E E' : Value → Shared → Prop} {ih : Itp} {G : Mn}
theorem Cx.reY {Y' : List (Addr × Obj)} (c : Cx W L Y fi env A fr) (k : ∀ a o, (a, o) ∈ Y → Slotty o → (a, o) ∈ Y') : Cx W L Y' fi env A fr :=
  { c with
    ff := fun e he => by
      obtain ⟨k1, a, k2, k3⟩ := c.ff e he
      refine ⟨k1, a, k2, ?_⟩
      rcases k3 with k3 | ⟨o, k3⟩
      · exact .inl k3
      · obtain ⟨es, n, k3, k4⟩ := k3
        exact .inr ⟨o, es, n, k a o k3 (.inl ⟨es, n, k4⟩), k4⟩
    ce := fun x a e => by
      obtain ⟨q, o, v, h1, h2, h3, h4, h5⟩ := c.ce x a e
      exact ⟨q, o, v, h1, h2, k q o h3 (.inr ⟨_, h4⟩), h4, h5⟩ }
theorem comp_once {prog : Program} {w : World} {R : Result → Shared → Prop} {elt target iter : Expr} {ifs : List Expr} {scope : Scope} {pos : Pos} {it acc : Value}
    (h : wpAny (model prog w) A (pyNext it) (fun r s₁ => match r with
      | none => R (.ok .next) s₁
      | some v => wpAny (model prog w) A (letOwnedTupleGo target it v) (fun _ s₁' => wpAny (model prog w) A (assign target env v) (fun _ s₂ =>
          wpAny (model prog w) A (forIn ifs true fun c r => if r = true then do let ok ← isTrue c env (eval c env); pure (ForInStep.yield ok) else pure (ForInStep.yield r)) (fun ok s₃ =>
            if ok = true then wpAny (model prog w) A (eval elt env) (fun x s₄ =>
              wpAny (model prog w) A (call (.builtin "list.append") [acc, x]) (fun _ s₅ => codeAny (model prog w) A (.compLoop (.ListComp elt [⟨target, iter, ifs, 0⟩] scope pos) 0 it acc env) R s₅) (fun _ _ => False) s₄) (fun _ _ => False) s₃
            else codeAny (model prog w) A (.compLoop (.ListComp elt [⟨target, iter, ifs, 0⟩] scope pos) 0 it acc env) R s₃) (fun _ _ => False) s₂) (fun _ _ => False) s₁') (fun _ _ => False) s₁) (fun _ _ => False) s) :
    codeAny (model prog w) A (.compLoop (.ListComp elt [⟨target, iter, ifs, 0⟩] scope pos) 0 it acc env) R s := by
  refine codeAny_of_tree ?_
  show wpAny _ A ((compTurn (.ListComp elt [⟨target, iter, ifs, 0⟩] scope pos) 0 it acc env).onRaise (fun x => do noteFrame x env; theTreesLotGoes x)) _ _ s
  refine wpAny_noted ?_
  rw [compTurn_list]
  refine wpAny_bind (wpAny_standAt (wpAny_bind (wpAny_mono h (fun r s₁ h₁ => ?_) fun _ _ h' => h'.elim)))
  cases r with
  | none => exact wpAny_pure h₁
  | some v =>
    refine wpAny_bind (wpAny_mono h₁ (fun _ s₁' h₁' => ?_) fun _ _ h' => h'.elim)
    refine wpAny_bind (wpAny_mono h₁' (fun _ s₂ h₂ => wpAny_bind (wpAny_mono h₂ (fun ok s₃ h₃ => ?_) fun _ _ h' => h'.elim)) fun _ _ h' => h'.elim)
    cases ok with
    | false => exact wpAny_pure ⟨rfl, h₃⟩
    | true =>
      exact wpAny_bind (wpAny_bind (wpAny_mono h₃ (fun x s₄ h₄ => wpAny_bind (wpAny_mono h₄ (fun _ s₅ h₅ => wpAny_pure (wpAny_pure ⟨rfl, h₅⟩)) fun _ _ h' => h'.elim)) fun _ _ h' => h'.elim))
theorem names_plain (nm : Nat → PySem.Str) (env : Env) : ∀ ts : List (Nat × Pos), assignEach (ts.map fun q => Expr.Name (nm q.1) q.2) env = ts.map fun q => (false, assign (.Name (nm q.1) q.2) env)
  | [] => rfl
  | q :: r => by rw [List.map_cons, List.map_cons, ← names_plain nm env r]; rfl
theorem no_star (env : Env) (nm : Nat → PySem.Str) (ts : List (Nat × Pos)) : (ts.map fun q => (false, assign (Expr.Name (nm q.1) q.2) env)).findIdx? (·.1) = none := by
  rw [List.findIdx?_eq_none_iff]
  intro x hx
  obtain ⟨q, _, rfl⟩ := List.mem_map.mp hx
  rfl
theorem assign_all (c : Cx W L Y fi env A fr) {prog : Program} {w : World} : ∀ (ts : List (Nat × Pos)) {vs : List AV} {xs : List Value} {l l' : Loc} {m : PySem.Str → Option Value} {s : Shared} {Q : Unit → Shared → Prop}, VRs W.G ρ vs xs → binds l ts vs = some l' → (∀ q ∈ ts, nelem fi.locs q.1 = true) →
    St W.G W.h₀ L m Y ρ σ s.heap → LR W.G env ρ l m → (∀ h' tk m', St W.G W.h₀ L m' Y ρ σ h' → LR W.G env ρ l' m' → Q () { s with heap := h', toks := tk }) →
    wpAny (model prog w) A (assignInOrder (ts.map fun q => assign (.Name (W.G.nm q.1) q.2) env) xs) Q E s := by
  intro ts
  induction ts with
  | nil =>
    intro vs xs l l' m s Q r hb _ S hl q
    cases r with
    | nil =>
      cases hb
      exact wpAny_assignInOrder_none (q s.heap s.toks m S hl)
    | cons _ _ => cases hb
  | cons t ts ih =>
    intro vs xs l l' m s Q r hb ht S hl q
    cases r with
    | nil => cases hb
    | @cons v x vs xs rv r =>
      obtain ⟨n, p⟩ := t
      have hb : binds (aput l n v) ts vs = some l' := hb
      refine wpAny_assignInOrder_more (wpAny_assign_Name (store_sound c S hl (ht _ (.head _)) rv fun h' m' S' hl' => ?_))
      exact ih (s := { s with heap := h', toks := s.toks + 1 }) r hb (fun q hq => ht q (.tail _ hq)) S' hl' fun h2 tk2 m2 S2 hl2 => q h2 tk2 m2 S2 hl2
theorem VRs_len {vs : List AV} {xs : List Value} (r : VRs G ρ vs xs) : xs.length = vs.length := r.length.symm
theorem binds_len : ∀ {l l' : Loc} {ts : List (Nat × Pos)} {vs : List AV}, binds l ts vs = some l' → ts.length = vs.length
  | _, _, [], [], _ => rfl
  | _, _, [], _ :: _, h => by cases h
  | _, _, _ :: _, [], h => by cases h
  | _, _, (n, p) :: r, v :: t, h => by rw [List.length_cons, List.length_cons, binds_len (l := aput _ n v) (ts := r) (vs := t) h]
end
end Mine
end

section
set_option maxRecDepth 100000
namespace Mine
open PySem PySem.W PyProof.Rows PySem.Calls PySem.SeqAt
section
variable {W : Wd} {L : Addr} {Y : List (Addr × Obj)} {fi : FI} {env : Env} {A : Around} {fr : List Env} {m : PySem.Str → Option Value} {l : Loc} {σ : Sig} {ρ ρ' : List Addr} {s : Shared} {E E' : Value → Shared → Prop} {ih : Itp} {G : Mn}
theorem own_go {prog : Program} {w : World} {target : Expr} {I : Addr} {v : Value} {n : String} {o : Obj} {vs : Array Value} {Q : Unit → Shared → Prop} (ho : s.heap.get? I = some o) (hc : o.cls = .type n) (hd : o.data = .fields vs)
    (hn : (["enumerate", "zip", "dict_itemiterator", "dict_reverseitemiterator", "odict_iterator", "itertools.zip_longest", "itertools.pairwise"].contains n) = false) (h : Q () s) :
    wpAny (model prog w) A (letOwnedTupleGo target (.ref I) v) Q E s := by
  unfold letOwnedTupleGo
  have key : wpAny (model prog w) A (do
    let (.ref r, .ref a) := (Value.ref I, v) | return
    let o ← load r
    match o.cls, o.data with
    | .type n, .fields vs =>
      if ["enumerate", "zip", "dict_itemiterator", "dict_reverseitemiterator", "odict_iterator", "itertools.zip_longest", "itertools.pairwise"].contains n && vs[0]? == some (rawInt a) then
        rule "for.unpacks-the-owned-tuple"
        updateField r 0 .none
    | _, _ => pure () : Sem Unit) Q E s := by
    cases v with
    | ref a =>
      refine wpAny_bind (wpAny_load ho ?_)
      rw [hc, hd]
      simp only [hn, Bool.false_and, if_false, Bool.false_eq_true]
      exact wpAny_pure h
    | _ => exact wpAny_pure h
  split
  · exact key
  · exact key
  · exact wpAny_pure h
theorem SrcI.mono {src : AV} {j : Nat} {o : Obj} (i : SrcI ρ src j o) (p : ρ <+: ρ') : SrcI ρ' src j o := by
  cases i with
  | list ha hc hd => exact .list (pre_get p ha) hc hd
  | tup ha hc hd => exact .tup (pre_get p ha) hc hd
  | str hc hd => exact .str hc hd
theorem bindT_none {ts : List (Nat × Pos)} {x : AV} {l' : Loc} (h : bindT l ts none x σ = some l') : ∃ n p, ts = [(n, p)] ∧ l' = aput l n x := by
  unfold bindT at h
  split at h
  · split at h
    · exact ⟨_, _, rfl, (Option.some.inj h).symm⟩
    · cases h
  · rename_i e; cases e
theorem bindT_some {ts : List (Nat × Pos)} {tp : Pos} {x : AV} {l' : Loc} (h : bindT l ts (some tp) x σ = some l') : ∃ i vs, x = .ref i ∧ look σ i = some (.tup vs) ∧ binds l ts vs = some l' := by
  unfold bindT at h
  split at h
  · rename_i e; cases e
  · split at h
    · split at h
      · rename_i i _ vs z
        exact ⟨i, vs, rfl, z, h⟩
      · cases h
    · cases h
theorem tgE_some (nm : Nat → PySem.Str) (ts : List (Nat × Pos)) (tp : Pos) : tgE nm ts (some tp) = .Tuple (ts.map fun q => .Name (nm q.1) q.2) 0 tp := by cases ts <;> rfl
theorem bindT_assign (c : Cx W L Y fi env A fr) {prog : Program} {w : World} {ts : List (Nat × Pos)} {tp : Option Pos} {x : AV} {xv : Value} {l' : Loc} {Q : Unit → Shared → Prop} (r : VR W.G ρ x xv) (hb : bindT l ts tp x σ = some l') (ht : ∀ q ∈ ts, nelem fi.locs q.1 = true)
    (S : St W.G W.h₀ L m Y ρ σ s.heap) (hl : LR W.G env ρ l m) (q : ∀ h' tk m', St W.G W.h₀ L m' Y ρ σ h' → LR W.G env ρ l' m' → Q () { s with heap := h', toks := tk }) :
    wpAny (model prog w) A (assign (tgE W.G.nm ts tp) env xv) Q E s := by
  cases tp with
  | none =>
    obtain ⟨n, p, rfl, rfl⟩ := bindT_none hb
    exact wpAny_assign_Name (store_sound c S hl (ht _ (.head _)) r fun h' m' S' hl' => q h' _ m' S' hl')
  | some tp =>
    obtain ⟨i, vs, rfl, u, hb2⟩ := bindT_some hb
    cases r with | @ref _ p hp =>
    obtain ⟨xs, it, hv, k, hg⟩ := at_tup S u hp
    rw [tgE_some]
    have e1 : (assignEach (ts.map fun q => Expr.Name (W.G.nm q.1) q.2) env).length = xs.toArray.size := by rw [names_plain, List.length_map, binds_len hb2, List.size_toArray, VRs_len hv]
    have e2 : (assignEach (ts.map fun q => Expr.Name (W.G.nm q.1) q.2) env).findIdx? (·.1) = none := by rw [names_plain]; exact no_star _ _ _
    have e3 : (assignEach (ts.map fun q => Expr.Name (W.G.nm q.1) q.2) env).map (·.2) = ts.map fun q => assign (.Name (W.G.nm q.1) q.2) env := by rw [names_plain, List.map_map]; rfl
    have it' : s.heap.IsTuple p xs.toArray := it
    generalize hE : (ts.map fun q => Expr.Name (W.G.nm q.1) q.2) = elts at e1 e2 e3 ⊢
    refine wpAny_assign_Tuple c.hd it' e1 e2 (fun h' he => ?_)
    rw [e3]
    have S2 : St W.G W.h₀ L m Y ρ σ h' := S.keeps fun b o e => he b o (Nat.ne_of_lt (Heap.lt_size e)) e
    exact assign_all (s := { s with heap := h' }) c ts hv hb2 ht S2 hl fun h2 tk2 m2 S3 hl3 => q h2 tk2 m2 S3 hl3
theorem testC_sound {n : Nat} (So : Sound W ih) (c : Cx W L Y fi env A fr) (S : St W.G W.h₀ L m Y ρ σ s.heap) (hl : LR W.G env ρ l m) {ifs : PEs} {Q : Bool → Shared → Prop}
    (h : PostO W.G W.C fr W.h₀ L m Y (fun _ a b => a = b) ρ (testC ih fi l ifs σ) Q E s) :
    wpAny (model W.prog W.w) A (forIn (toEs W.G.nm ifs) true fun c r => if r = true then do let ok ← isTrue c env (eval c env); pure (ForInStep.yield ok) else pure (ForInStep.yield r)) Q E s := by
  cases ifs with
  | nil => exact wpAny_tests_nil (h.val' S rfl)
  | cons a r => cases r with
    | nil => exact wpAny_tests_one (So.tr c S hl h)
    | cons b r => exact h.elim
end
end Mine
end

section
set_option maxRecDepth 100000
namespace Mine
open PySem PySem.W PyProof.Rows PySem.Calls PySem.SeqAt
section
variable {W : Wd} {L : Addr} {Y : List (Addr × Obj)} {fi : FI} {env : Env} {A : Around} {fr : List Env} {m : PySem.Str → Option Value} {l : Loc} {σ : Sig} {ρ ρ' : List Addr} {s : Shared} {E E' : Value → Shared → Prop} {ih : Itp} {G : Mn}
/-- what is left of a comprehension -/
noncomputable def CmpK (W : Wd) (L : Addr) (Y : List (Addr × Obj)) (D : Addr) (ys : List Value) (ρ : List Addr) (vs : List AV) (σ' : Sig) (R : Result → Shared → Prop) (s : Shared) : Prop :=
  ∀ ρ' h' tk' mc' zs n', ρ <+: ρ' → St W.G W.h₀ L mc' ((D, PySem.W.listOf (ys ++ zs).toArray n') :: Y) ρ' σ' h' → VRs W.G ρ' vs zs → R (.ok .next) { s with heap := h', toks := tk' }
theorem src_next {j : Nat} {src : AV} {I : Addr} {oI : Obj} {o : Option AV} {Q : Option Value → Shared → Prop} {E : Value → Shared → Prop} (hh : A.handled = none) (S : St W.G W.h₀ L m ((I, oI) :: Y) ρ σ s.heap) (i : SrcI ρ src j oI) (hs : srcAt σ src j = some o)
    (k0 : o = none → ∀ h', St W.G W.h₀ L m Y ρ σ h' → Q none { s with heap := h' })
    (k1 : ∀ v xv h' tk oI', o = some v → VR W.G ρ v xv → SrcI ρ src (j + 1) oI' → (∃ n, oI'.cls = .type n ∧ (["enumerate", "zip", "dict_itemiterator", "dict_reverseitemiterator", "odict_iterator", "itertools.zip_longest", "itertools.pairwise"].contains n) = false ∧ ∃ vs, oI'.data = .fields vs) → h'.get? I = some oI' →
      St W.G W.h₀ L m ((I, oI') :: Y) ρ σ h' → Q (some xv) { s with heap := h', toks := tk }) : wpAny (model W.prog W.w) A (pyNext (.ref I)) Q E s := by
  obtain ⟨o', g1, g2, _, _⟩ := S.mem (.head _)
  have nd : ¬ Slotty oI := fun q => by
    cases i with
    | list _ _ hd => rcases q with ⟨_, _, q⟩ | ⟨_, q⟩ <;> (rw [hd] at q; cases q)
    | tup _ _ hd => rcases q with ⟨_, _, q⟩ | ⟨_, q⟩ <;> (rw [hd] at q; cases q)
    | str _ hd => rcases q with ⟨_, _, q⟩ | ⟨_, q⟩ <;> (rw [hd] at q; cases q)
  have hI : s.heap.get? I = some oI := by
    rcases g2 with g2 | ⟨sl, _⟩
    · rw [g1, g2]
    · exact absurd sl nd
  cases i with
  | @list i a j _ ha hc hd =>
    cases u : look σ i with
    | none => simp [srcAt, u] at hs
    | some ao =>
      cases ao with
      | lst xs =>
        have hs : nth xs j = o := by simpa [srcAt, u] using hs
        obtain ⟨us, it, hv, n, hg⟩ := at_lst S u ha
        rw [nth_get] at hs
        have hit : s.heap.IsListIter I a j := ⟨_, hI, hc, hd⟩
        cases o with
        | none =>
          have hn : us.toArray[j]? = none := by
            rw [List.getElem?_toArray]
            rw [List.getElem?_eq_none_iff] at hs ⊢
            rw [hv.len]; exact hs
          exact wpAny_pyNext_list_end hh hit it hn fun h' he => k0 rfl h' (S.forget fun b ob hb e => he b ob hb e)
        | some v =>
          obtain ⟨y, hy, ry⟩ := hv.get hs
          refine wpAny_pyNext_list_item hit it (x := y) (by simpa using hy) fun h' hit' hsb => ?_
          obtain ⟨o2, e1, e2, e3⟩ := hit'
          exact k1 v y h' s.toks o2 rfl ry (.list ha e2 e3) ⟨_, e2, by decide, _, e3⟩ e1 (S.alter (fun b ob hb e => hsb.extBut b ob hb e) e1)
      | _ => simp [srcAt, u] at hs
  | @tup i a j _ ha hc hd =>
    cases u : look σ i with
    | none => simp [srcAt, u] at hs
    | some ao =>
      cases ao with
      | tup xs =>
        have hs : nth xs j = o := by simpa [srcAt, u] using hs
        obtain ⟨us, it, hv, n, hg⟩ := at_tup S u ha
        rw [nth_get] at hs
        have hit : s.heap.IsTupleIter I a j := ⟨_, hI, hc, hd⟩
        cases o with
        | none =>
          have hn : us.toArray[j]? = none := by
            rw [List.getElem?_toArray]
            rw [List.getElem?_eq_none_iff] at hs ⊢
            rw [hv.len]; exact hs
          exact wpAny_pyNext_tuple_end hh hit it hn fun h' he => k0 rfl h' (S.forget fun b ob hb e => he b ob hb e)
        | some v =>
          obtain ⟨y, hy, ry⟩ := hv.get hs
          refine wpAny_pyNext_tuple_item hit it (x := y) (by simpa using hy) fun h' hit' hsb => ?_
          obtain ⟨o2, e1, e2, e3⟩ := hit'
          exact k1 v y h' s.toks o2 rfl ry (.tup ha e2 e3) ⟨_, e2, by decide, _, e3⟩ e1 (S.alter (fun b ob hb e => hsb.extBut b ob hb e) e1)
      | _ => simp [srcAt, u] at hs
  | @str t k j _ hc hd =>
    have hs : (nth t j).map (fun c => AV.str [c]) = o := Option.some.inj hs
    rw [nth_get] at hs
    have hit : s.heap.IsStrIter I "str_ascii_iterator" ⟨t.toArray⟩ k j := ⟨_, hI, hc, hd⟩
    cases z : t[j]? with
    | none =>
      rw [z] at hs
      exact wpAny_pyNext_ascii_end hh hit (by simpa using z) fun h' he => k0 hs.symm h' (S.forget fun b ob hb e => he b ob hb e)
    | some c =>
      rw [z] at hs
      refine wpAny_pyNext_ascii_item hit (c := c) (by simpa using z) fun h' hit' hsb => ?_
      obtain ⟨o2, e1, e2, e3⟩ := hit'
      exact k1 (.str [c]) _ h' _ o2 hs.symm (.str [c] _) (.str e2 e3) ⟨_, e2, by decide, _, e3⟩ e1 (S.alter (fun b ob hb e => hsb.extBut b ob hb e) e1)
theorem append_side {D : Addr} {its : Array Value} {n : Nat} {x : Value} {oI : Obj} {I : Addr} {Q : Value → Shared → Prop} (S : St W.G W.h₀ L m ((I, oI) :: (D, PySem.W.listOf its n) :: Y) ρ σ s.heap) (hz : its.size ≤ 1000)
    (k : ∀ h' n', St W.G W.h₀ L m ((I, oI) :: (D, PySem.W.listOf (its.push x) n') :: Y) ρ σ h' → Q .none { s with heap := h' }) : wpAny (model W.prog W.w) A (call (.builtin "list.append") [.ref D, x]) Q E s := by
  have S' := S.swap
  obtain ⟨o', g1, g2, _, _⟩ := S'.mem (.head _)
  have hD : s.heap.get? D = some (PySem.W.listOf its n) := by
    rcases g2 with g2 | ⟨sl, _⟩
    · rw [g1, g2]
    · rcases sl with ⟨_, _, e⟩ | ⟨_, e⟩ <;> cases e
  exact append_at (hsz := sz1000 hz) hD fun h' hs ho' => k h' _ (S'.alter (fun b ob hb e => hs.extBut b ob hb e) ho').swap
theorem cmp_step (So : Sound W ih) {D I : Addr} {oI : Obj} {ys : List Value} {n j : Nat} {src : AV} {elt : PE} {ts : List (Nat × Pos)} {tp : Option Pos} {iter : Expr} {ifs : PEs} {sc : Scope} {p : Pos} {vs : List AV} {σ' : Sig} {R : Result → Shared → Prop}
    (c : Cx W L ((I, oI) :: (D, PySem.W.listOf ys.toArray n) :: Y) fi env A fr) (S : St W.G W.h₀ L m ((I, oI) :: (D, PySem.W.listOf ys.toArray n) :: Y) ρ σ s.heap) (hl : LR W.G env ρ l m) (hi : SrcI ρ src j oI) (hj : ys.length ≤ j)
    (ht : ∀ q ∈ ts, nelem fi.locs q.1 = true) (he : (step W.tb ih).cmp fi l elt ts tp ifs src j σ = .ok vs σ') (K : CmpK W L Y D ys ρ vs σ' R s) :
    codeAny (model W.prog W.w) A (.compLoop (.ListComp (toE W.G.nm elt) [⟨tgE W.G.nm ts tp, iter, toEs W.G.nm ifs, 0⟩] sc p) 0 (.ref I) (.ref D) env) R s := by
  have e : (step W.tb ih).cmp fi l elt ts tp ifs src j σ = (match srcAt σ src j with
    | none => .stuck
    | some none => .ok [] σ
    | some (some x) => match bindT l ts tp x σ with
      | none => Out.stuck
      | some l' => bif Nat.ble j 1000 then (testC ih fi l' ifs σ).bind fun ok σ1 =>
          bif ok then (ih.ev fi l' elt σ1).bind fun v σ2 => (ih.cmp fi l' elt ts tp ifs src (j + 1) (Mine.drop σ.nxt v σ2)).bind fun vs σ3 => .ok (v :: vs) σ3
          else ih.cmp fi l' elt ts tp ifs src (j + 1) (Mine.drop σ.nxt .none σ1) else .stuck) := rfl
  rw [e] at he
  clear e
  refine comp_once ?_
  cases zs : srcAt σ src j with
  | none => rw [zs] at he; cases he
  | some o =>
  refine src_next c.hd S hi zs (fun e h' S' => ?_) (fun v xv h1 tk1 oI' e rv hi' hob hI' S1 => ?_)
  · subst e
    rw [zs] at he
    have he : Out.ok ([] : List AV) σ = .ok vs σ' := he
    cases he
    exact K ρ h' s.toks m [] n (List.prefix_refl _) (by rw [List.append_nil]; exact S') .nil
  · subst e
    rw [zs] at he
    have he : (match bindT l ts tp v σ with
      | none => Out.stuck
      | some l' => bif Nat.ble j 1000 then (testC ih fi l' ifs σ).bind fun ok σ1 =>
          bif ok then (ih.ev fi l' elt σ1).bind fun v σ2 => (ih.cmp fi l' elt ts tp ifs src (j + 1) (Mine.drop σ.nxt v σ2)).bind fun vs σ3 => .ok (v :: vs) σ3
          else ih.cmp fi l' elt ts tp ifs src (j + 1) (Mine.drop σ.nxt .none σ1) else .stuck) = .ok vs σ' := he
    cases zb : bindT l ts tp v σ with
    | none => rw [zb] at he; cases he
    | some l' =>
    rw [zb] at he
    have he : (bif Nat.ble j 1000 then (testC ih fi l' ifs σ).bind fun ok σ1 =>
          bif ok then (ih.ev fi l' elt σ1).bind fun v σ2 => (ih.cmp fi l' elt ts tp ifs src (j + 1) (Mine.drop σ.nxt v σ2)).bind fun vs σ3 => .ok (v :: vs) σ3
          else ih.cmp fi l' elt ts tp ifs src (j + 1) (Mine.drop σ.nxt .none σ1) else Out.stuck) = Out.ok vs σ' := he
    cases zj : Nat.ble j 1000 with
    | false => rw [zj] at he; cases he
    | true =>
    rw [zj] at he
    have zj := Nat.le_of_ble_eq_true zj
    have he : ((testC ih fi l' ifs σ).bind fun ok σ1 =>
          bif ok then (ih.ev fi l' elt σ1).bind fun v σ2 => (ih.cmp fi l' elt ts tp ifs src (j + 1) (Mine.drop σ.nxt v σ2)).bind fun vs σ3 => .ok (v :: vs) σ3
          else ih.cmp fi l' elt ts tp ifs src (j + 1) (Mine.drop σ.nxt .none σ1)) = .ok vs σ' := he
    have c1 : Cx W L ((I, oI') :: (D, PySem.W.listOf ys.toArray n) :: Y) fi env A fr := c.reY fun a o hm hd => by
      rcases List.mem_cons.mp hm with q | q
      · cases q
        cases hi with
        | list _ _ h => rcases hd with ⟨_, _, q⟩ | ⟨_, q⟩ <;> (rw [h] at q; cases q)
        | tup _ _ h => rcases hd with ⟨_, _, q⟩ | ⟨_, q⟩ <;> (rw [h] at q; cases q)
        | str _ h => rcases hd with ⟨_, _, q⟩ | ⟨_, q⟩ <;> (rw [h] at q; cases q)
      · exact .tail _ q
    obtain ⟨nn, b1, b2, vsI, b3⟩ := hob
    refine own_go (s := { s with heap := h1, toks := tk1 }) hI' b1 b3 b2 ?_
    refine bindT_assign (s := { s with heap := h1, toks := tk1 }) c1 rv zb ht S1 hl fun h2 tk2 m2 S2 hl2 => ?_
    refine testC_sound (n := 0) (s := { s with heap := h2, toks := tk2 }) So c1 S2 hl2 ?_
    cases zt : testC ih fi l' ifs σ with
    | stuck => rw [zt] at he; cases he
    | exc σ1 => rw [zt] at he; cases he
    | ok b σ1 =>
    rw [zt] at he
    have he : (bif b then (ih.ev fi l' elt σ1).bind fun v σ2 => (ih.cmp fi l' elt ts tp ifs src (j + 1) (Mine.drop σ.nxt v σ2)).bind fun vs σ3 => .ok (v :: vs) σ3
          else ih.cmp fi l' elt ts tp ifs src (j + 1) (Mine.drop σ.nxt .none σ1)) = .ok vs σ' := he
    intro ρ3 b' h3 tk3 p3 S3 hb
    subst hb
    cases b with
    | false =>
      rw [if_neg (by decide)]
      have he : ih.cmp fi l' elt ts tp ifs src (j + 1) (Mine.drop σ.nxt .none σ1) = .ok vs σ' := he
      exact So.cmp (s := { s with heap := h3, toks := tk3 }) c1 (S3.drop _ _) (hl2.mono p3) (hi'.mono p3) (Nat.le_succ_of_le hj) ht he
        fun ρ4 h4 tk4 m4 zs n4 p4 S4 r4 => K ρ4 h4 tk4 m4 zs n4 (p3.trans p4) S4 r4
    | true =>
      rw [if_pos rfl]
      have he : ((ih.ev fi l' elt σ1).bind fun v σ2 => (ih.cmp fi l' elt ts tp ifs src (j + 1) (Mine.drop σ.nxt v σ2)).bind fun vs σ3 => .ok (v :: vs) σ3) = .ok vs σ' := he
      refine So.ev (s := { s with heap := h3, toks := tk3 }) c1 S3 (hl2.mono p3) ?_
      cases zv : ih.ev fi l' elt σ1 with
      | stuck => rw [zv] at he; cases he
      | exc σ2 => rw [zv] at he; cases he
      | ok v2 σ2 =>
      rw [zv] at he
      have he : ((ih.cmp fi l' elt ts tp ifs src (j + 1) (Mine.drop σ.nxt v2 σ2)).bind fun vs σ3 => .ok (v2 :: vs) σ3) = Out.ok vs σ' := he
      intro ρ4 x4 h4 tk4 p4 S4 r4
      cases zc : ih.cmp fi l' elt ts tp ifs src (j + 1) (Mine.drop σ.nxt v2 σ2) with
      | stuck => rw [zc] at he; cases he
      | exc σ5 => rw [zc] at he; cases he
      | ok vs5 σ5 =>
      rw [zc] at he
      have he : Out.ok (v2 :: vs5) σ5 = .ok vs σ' := he
      cases he
      refine append_side (s := { s with heap := h4, toks := tk4 }) (S4.drop σ.nxt v2) (by rw [List.size_toArray]; omega) fun h5 n5 S5 => ?_
      rw [List.push_toArray] at S5
      have c5 : Cx W L ((I, oI') :: (D, PySem.W.listOf (ys ++ [x4]).toArray n5) :: Y) fi env A fr := c1.reY fun a o hm hd => by
        rcases List.mem_cons.mp hm with q | q
        · rw [q]; exact .head _
        · rcases List.mem_cons.mp q with q | q
          · cases q
            rcases hd with ⟨_, _, q⟩ | ⟨_, q⟩ <;> cases q
          · exact .tail _ (.tail _ q)
      refine So.cmp (s := { s with heap := h5, toks := tk4 }) c5 S5 ((hl2.mono p3).mono p4) ((hi'.mono p3).mono p4) (by rw [List.length_append]; exact Nat.succ_le_succ hj) ht zc
        fun ρ6 h6 tk6 m6 zs n6 p6 S6 r6 => ?_
      refine K ρ6 h6 tk6 m6 (x4 :: zs) n6 ((p3.trans p4).trans p6) ?_ (.cons (r4.mono p6) r6)
      rw [List.append_assoc] at S6
      exact S6
end
end Mine
end

section
set_option maxRecDepth 100000
namespace Mine
open PySem PySem.W PyProof.Rows PySem.Calls PySem.SeqAt
section
variable {W : Wd} {L : Addr} {Y : List (Addr × Obj)} {fi : FI} {env : Env} {A : Around} {fr : List Env} {m : PySem.Str → Option Value} {l : Loc} {σ : Sig} {ρ ρ' : List Addr} {s : Shared} {E E' : Value → Shared → Prop} {ih : Itp} {G : Mn}
theorem look_sc (nm : Nat → PySem.Str) (inj : ∀ i j, nm i = nm j → i = j) : ∀ (sc : List (Nat × Nat)) (x : Nat), ((sc.map fun q => (nm q.1, scK q.2)).lookup (nm x)) = (aget sc x).map scK
  | [], x => rfl
  | q :: r, x => by
    rw [List.map_cons, List.lookup_cons]
    unfold aget
    cases z : Nat.beq q.1 x with
    | true =>
      have := Nat.eq_of_beq_eq_true z
      rw [this, beq_self_eq_true]
      rfl
    | false =>
      have h1 := Nat.ne_of_beq_eq_false z
      have : (nm x == nm q.1) = false := beq_eq_false_iff_ne.mpr fun e => h1 (inj _ _ e).symm
      rw [this]
      exact look_sc nm inj r x
theorem scOk_kind {nm : Nat → PySem.Str} {sc : List (Nat × Nat)} (h : scOk sc = true) : ∀ x ∈ (scE nm sc).names, x.2 = .local ∨ x.2 = .globalImplicit := by
  intro x hx
  obtain ⟨q, hq, rfl⟩ := List.mem_map.mp hx
  have := List.all_eq_true.mp h q hq
  obtain ⟨h1, _⟩ := and3 this
  have h1 : q.2 ≤ 1 := Nat.le_of_ble_eq_true h1
  show scK q.2 = _ ∨ scK q.2 = _
  rcases (by omega : q.2 = 0 ∨ q.2 = 1) with e | e
  · rw [e]; exact .inl rfl
  · rw [e]; exact .inr rfl
theorem scOk_names {nm : Nat → PySem.Str} (inj : ∀ i j, nm i = nm j → i = j) {sc : List (Nat × Nat)} (h : scOk sc = true) : ∀ x ∈ (scE nm sc).names, x.2 = .local → (scE nm sc).names.lookup x.1 = some .local := by
  intro x hx hl
  obtain ⟨q, hq, rfl⟩ := List.mem_map.mp hx
  have := List.all_eq_true.mp h q hq
  obtain ⟨_, h2⟩ := and3 this
  show ((sc.map fun q => (nm q.1, scK q.2)).lookup (nm q.1)) = _
  rw [look_sc nm inj]
  cases z : aget sc q.1 with
  | none => rw [z] at h2; cases h2
  | some k =>
    rw [z] at h2
    have : k = q.2 := Nat.eq_of_beq_eq_true h2
    rw [this]
    exact congrArg some hl
theorem tsOk_locs {nm : Nat → PySem.Str} (inj : ∀ i j, nm i = nm j → i = j) {sc : List (Nat × Nat)} {ts : List (Nat × Pos)} (h : tsOk sc ts = true) (x : Nat) (hx : nelem (ts.map (·.1)) x = true) : (scE nm sc).names.lookup (nm x) = some .local := by
  rw [nelem_iff, decide_eq_true_eq] at hx
  obtain ⟨q, hq, rfl⟩ := List.mem_map.mp hx
  have := List.all_eq_true.mp h q hq
  show ((sc.map fun q => (nm q.1, scK q.2)).lookup (nm q.1)) = _
  rw [look_sc nm inj]
  split at this
  · rename_i e; rw [e]; rfl
  · cases this
theorem glbOf_mem : ∀ {sc : List (Nat × Nat)} {x : Nat}, x ∈ glbOf sc → ∃ q ∈ sc, q.1 = x ∧ q.2 = 1
  | [], x, h => by cases h
  | q :: r, x, h => by
    unfold glbOf at h
    cases z : Nat.beq q.2 1 with
    | true =>
      rw [z] at h
      rcases List.mem_cons.mp h with e | h
      · exact ⟨q, .head _, e.symm, Nat.eq_of_beq_eq_true z⟩
      · obtain ⟨p, hp, e⟩ := glbOf_mem h
        exact ⟨p, .tail _ hp, e⟩
    | false =>
      rw [z] at h
      obtain ⟨p, hp, e⟩ := glbOf_mem h
      exact ⟨p, .tail _ hp, e⟩
theorem glb_ok {nm : Nat → PySem.Str} (inj : ∀ i j, nm i = nm j → i = j) {sc : List (Nat × Nat)} (h : scOk sc = true) (x : Nat) (hx : nelem (glbOf sc) x = true) : (scE nm sc).names.lookup (nm x) = some .globalImplicit := by
  rw [nelem_iff, decide_eq_true_eq] at hx
  obtain ⟨q, hq, e1, e2⟩ := glbOf_mem hx
  subst e1
  have := List.all_eq_true.mp h q hq
  obtain ⟨_, h2⟩ := and3 this
  show ((sc.map fun q => (nm q.1, scK q.2)).lookup (nm q.1)) = _
  rw [look_sc nm inj]
  cases z : aget sc q.1 with
  | none => rw [z] at h2; cases h2
  | some k =>
    rw [z] at h2
    have : k = q.2 := Nat.eq_of_beq_eq_true h2
    rw [this, e2]; rfl
theorem ts_mem (ts : List (Nat × Pos)) : ∀ q ∈ ts, nelem (ts.map (·.1)) q.1 = true := fun q hq => by
  rw [nelem_iff, decide_eq_true_eq]
  exact List.mem_map_of_mem hq
theorem isT_inv {i : Nat} (h : isT σ i = true) : ∃ xs, look σ i = some (.tup xs) := by
  unfold isT at h
  split at h
  · exact ⟨_, by assumption⟩
  · cases h
theorem okA_all : ∀ {t : List Nat}, okA t = true → (⟨t.toArray⟩ : PySem.Str).cps.all (· < 128) = true := by
  intro t h
  have : t.all (· < 128) = true := by
    induction t with
    | nil => rfl
    | cons c r ih =>
      unfold okA at h
      cases z : Nat.blt c 128 with
      | false => rw [z] at h; cases h
      | true =>
        rw [z] at h
        rw [List.all_cons, ih h, Bool.and_true]
        exact decide_eq_true (Nat.le_of_ble_eq_true z)
  simpa using this
/-- the comprehension's iterator -/
theorem src_iter {x : AV} {xv : Value} {Q : Value → Shared → Prop} (S : St W.G W.h₀ L m Y ρ σ s.heap) (r : VR W.G ρ x xv) (hs : srcOk σ x = true)
    (k : ∀ oI, SrcI ρ (srcOf σ x) 0 oI → oI.isFreed = false → (¬ Slotty oI) → (∀ s' : Shared, s'.heap.get? s.heap.objs.size = some oI → ∀ {A' : Around} {E' : Value → Shared → Prop} {Q' : Value → Shared → Prop}, Q' (.ref s.heap.objs.size) s' → wpAny (model W.prog W.w) A' (pyIter (.ref s.heap.objs.size)) Q' E' s') →
      Q (.ref s.heap.objs.size) { s with heap := s.heap.push oI }) : wpAny (model W.prog W.w) A (pyIter xv) Q E s := by
  cases x with
  | ref i =>
    cases r with | @ref _ p hp =>
    cases zt : isT σ i with
    | true =>
      have e0 : srcOf σ (.ref i) = .sym i := by show (bif isT σ i then AV.sym i else .ref i) = _; rw [zt]; rfl
      rw [e0] at k
      obtain ⟨xs, u⟩ := isT_inv zt
      obtain ⟨us, it, hv, n, hg⟩ := at_tup S u hp
      exact wpAny_pyIter_tuple it (k _ (.tup hp rfl rfl) rfl (fun q => by rcases q with ⟨_, _, q⟩ | ⟨_, q⟩ <;> cases q) fun s' e A' E' Q' q => wpAny_pyIter_tupleiter ⟨_, e, rfl, rfl⟩ q)
    | false =>
      have e0 : srcOf σ (.ref i) = .ref i := by show (bif isT σ i then AV.sym i else .ref i) = _; rw [zt]; rfl
      rw [e0] at k
      have hs : (isL σ i || isT σ i) = true := hs
      rw [zt, Bool.or_false] at hs
      obtain ⟨xs, u⟩ := isL_inv hs
      obtain ⟨us, it, hv, n, hg⟩ := at_lst S u hp
      exact wpAny_pyIter_list it (k _ (.list hp rfl rfl) rfl (fun q => by rcases q with ⟨_, _, q⟩ | ⟨_, q⟩ <;> cases q) fun s' e A' E' Q' q => wpAny_pyIter_listiter ⟨_, e, rfl, rfl⟩ q)
  | str t =>
    cases r with | str _ tk =>
    obtain ⟨h1, _⟩ := and3 hs
    exact wpAny_pyIter_ascii (okA_all h1) (k _ (.str rfl rfl) rfl (fun q => by rcases q with ⟨_, _, q⟩ | ⟨_, q⟩ <;> cases q) fun s' e A' E' Q' q => wpAny_pyIter_striter_ascii ⟨_, e, rfl, rfl⟩ q)
  | _ => cases hs
theorem comp_core (So : Sound W ih) (c : Cx W L Y fi env A fr) (S : St W.G W.h₀ L m Y ρ σ s.heap) {x : AV} {xv : Value} (rx : VR W.G ρ x xv) (hs : srcOk σ x = true) {elt : PE} {ts : List (Nat × Pos)} {tp : Option Pos} {iter : Expr} {ifs : PEs} {sc : List (Nat × Nat)} {p : Pos}
    (h1 : scOk sc = true) (h2 : tsOk sc ts = true) {vs : List AV} {σ' : Sig} (he : ih.cmp ⟨ts.map (·.1), glbOf sc, fi.cc, []⟩ [] elt ts tp ifs (srcOf σ x) 0 σ = .ok vs σ') {RR : Env → Value → Result → Shared → Prop}
    (K : ∀ cenv D oL ρ' h' tk' mc' zs n', cenv.locals ≠ L → NsOb oL m → ρ <+: ρ' → St W.G W.h₀ cenv.locals mc' ((D, PySem.W.listOf zs.toArray n') :: (L, oL) :: Y) ρ' σ' h' → VRs W.G ρ' vs zs → RR cenv (.ref D) (.ok .next) { s with heap := h', toks := tk' }) :
    wpAny (model W.prog W.w) A (pyIter xv) (fun it s₂ => wpAny (model W.prog W.w) A (newList []) (fun acc s₃ =>
      wpAny (model W.prog W.w) A (newFunctionEnv (scE W.G.nm sc) env.globals [] [] env.qual none .none (some env)) (fun cenv s₄ =>
        codeAny (model W.prog W.w) A (.compStart (.ListComp (toE W.G.nm elt) [⟨tgE W.G.nm ts tp, iter, toEs W.G.nm ifs, 0⟩] (scE W.G.nm sc) p) 0 it acc { cenv with scope := scE W.G.nm sc }) (RR cenv acc) s₄) E s₃) E s₂) E s := by
  refine src_iter S rx hs fun oI hi hfr hnd again => ?_
  have S1 := S.aside oI hfr
  refine wpAny_newObj_type (s := { s with heap := s.heap.push oI }) (hd := by show 0 ≤ sizeLine; exact Nat.zero_le _) ?_
  have S2 := S1.aside (PySem.W.listOf ([] : List Value).toArray 0) rfl
  refine wpAny_newFunctionEnv (s := { s with heap := (s.heap.push oI).push (PySem.W.listOf ([] : List Value).toArray 0) }) (fun x hx => by rcases scOk_kind h1 x hx with e | e <;> (rw [e]; decide)) (fun x hx => nomatch hx) (fun h₁ hns hsb => ?_) rfl
  dsimp only at hns hsb ⊢
  have hk : ∀ b o, ((s.heap.push oI).push (PySem.W.listOf ([] : List Value).toArray 0)).get? b = some o → h₁.get? b = some o := fun b o e =>
    hsb.extBut b o (Nat.ne_of_lt (Heap.lt_size e)) (Heap.get?_push_of_some _ e)
  obtain ⟨oL, nL, S3⟩ := S2.enter hns (Nat.le_refl _) hk
  have S4 := (S3.swap.swap2).swap
  have C : Cx W ((s.heap.push oI).push (PySem.W.listOf ([] : List Value).toArray 0)).objs.size ((s.heap.objs.size, oI) :: ((s.heap.push oI).objs.size, PySem.W.listOf ([] : List Value).toArray 0) :: (L, oL) :: Y) ⟨ts.map (·.1), glbOf sc, fi.cc, []⟩
      { newEnv (scE W.G.nm sc) ((s.heap.push oI).push (PySem.W.listOf ([] : List Value).toArray 0)).objs.size env.globals [] env.qual none .none (some env) builtinsNs with scope := scE W.G.nm sc } A fr :=
    { fk := rfl
      lo := rfl
      gl := c.gl
      bu := c.bu
      li := fun x hx => tsOk_locs W.G.inj h2 x hx
      gi := fun x hx => glb_ok W.G.inj h1 x hx
      un := by have := c.un; show A.units + 200 * fi.cc + 100 < cLine; omega
      hd := c.hd
      dp := by have := c.dp; show A.depth + 8 * fi.cc + 4 < recursionLimit; omega
      fs := c.fs
      ff := fun e he => by
        obtain ⟨k1, a, k2, k3⟩ := c.ff e he
        refine ⟨k1, a, k2, .inr ?_⟩
        rcases k3 with rfl | ⟨o, es, n, k3, k4⟩
        · obtain ⟨es, n, e⟩ := nL.isDict
          exact ⟨oL, es, n, .tail _ (.tail _ (.head _)), e⟩
        · exact ⟨o, es, n, .tail _ (.tail _ (.tail _ k3)), k4⟩
      ce := fun x a e => (by cases e) }
  have hneL : ((s.heap.push oI).push (PySem.W.listOf ([] : List Value).toArray 0)).objs.size ≠ L := by
    have := S2
    obtain ⟨_, _, S2⟩ := S2
    exact (Nat.ne_of_lt S2.F.ns.lt).symm
  have loop : ∀ s₂ : Shared, s₂ = { s with heap := h₁, toks := s.toks + ([] : List (PySem.Str × Value)).length } →
      codeAny (model W.prog W.w) A (.compLoop (.ListComp (toE W.G.nm elt) [⟨tgE W.G.nm ts tp, iter, toEs W.G.nm ifs, 0⟩] (scE W.G.nm sc) p) 0 (.ref s.heap.objs.size) (.ref (s.heap.push oI).objs.size)
        { newEnv (scE W.G.nm sc) ((s.heap.push oI).push (PySem.W.listOf ([] : List Value).toArray 0)).objs.size env.globals [] env.qual none .none (some env) builtinsNs with scope := scE W.G.nm sc })
        (RR (newEnv (scE W.G.nm sc) ((s.heap.push oI).push (PySem.W.listOf ([] : List Value).toArray 0)).objs.size env.globals [] env.qual none .none (some env) builtinsNs) (.ref (s.heap.push oI).objs.size)) s₂ := by
    rintro s₂ rfl
    refine So.cmp (s := { s with heap := h₁, toks := s.toks + ([] : List (PySem.Str × Value)).length }) (ys := []) C S4 (fun x a e => by cases e) hi (Nat.zero_le _) (ts_mem ts) he fun ρ' h' tk' mc' zs n' pp S5 r5 => ?_
    exact K _ _ oL ρ' h' tk' mc' zs n' hneL nL pp S5 r5
  obtain ⟨oI', g1, g2, _, _⟩ := S4.mem (.head _)
  have hI : h₁.get? s.heap.objs.size = some oI := by
    rcases g2 with g2 | ⟨sl, _⟩
    · rw [g1, g2]
    · exact absurd sl hnd
  exact codeAny_compStart_list (loop _ rfl) (again _ hI (loop _ rfl))
end
end Mine
end

section
set_option maxRecDepth 100000
namespace Mine
open PySem PySem.W PyProof.Rows PySem.Calls PySem.SeqAt
section
variable {W : Wd} {L : Addr} {Y : List (Addr × Obj)} {fi : FI} {env : Env} {A : Around} {fr : List Env} {m : PySem.Str → Option Value} {l : Loc} {σ : Sig} {ρ ρ' : List Addr} {s : Shared} {E E' : Value → Shared → Prop} {ih : Itp} {G : Mn}
theorem compE_inv {old : Nat} {o : Out (List AV)} {v : AV} {σ' : Sig} (h : compE old o = .ok v σ') : ∃ vs σ2, o = .ok vs σ2 ∧ v = .ref (Mine.alloc σ2 (.lst vs)).1 ∧ σ' = Mine.drop old (.ref (Mine.alloc σ2 (.lst vs)).1) (Mine.alloc σ2 (.lst vs)).2 := by
  unfold compE at h
  split at h
  · rename_i vs σ2
    cases z : small vs.length with
    | false => rw [z] at h; cases h
    | true =>
      rw [z] at h
      have h : Out.ok (AV.ref (Mine.alloc σ2 (.lst vs)).1) (Mine.drop old (.ref (Mine.alloc σ2 (.lst vs)).1) (Mine.alloc σ2 (.lst vs)).2) = .ok v σ' := h
      cases h
      exact ⟨vs, σ2, rfl, rfl, rfl⟩
  · cases h
theorem compE_cases (old : Nat) (o : Out (List AV)) : compE old o = .stuck ∨ ∃ v σ', compE old o = .ok v σ' := by
  unfold compE
  split
  · rename_i vs σ2
    cases z : small vs.length with
    | false => exact .inl rfl
    | true => exact .inr ⟨_, _, rfl⟩
  · exact .inl rfl
theorem ix_of {h : Heap} {L : Addr} {Y : List (Addr × Obj)} {h₀ : Heap} (S : St G h₀ L m Y ρ σ h) (D : Addr) (ao : AO) : (ρ ++ [D])[(Mine.alloc σ ao).1]? = some D := by
  obtain ⟨_, _, S⟩ := S
  exact S.ix D ao
theorem comp_ev (So : Sound W ih) (c : Cx W L Y fi env A fr) (S : St W.G W.h₀ L m Y ρ σ s.heap) (hl : LR W.G env ρ l m) {elt : PE} {ts : List (Nat × Pos)} {tp : Option Pos} {it : PE} {ifs : PEs} {sc : List (Nat × Nat)} {p : Pos} {Q : Value → Shared → Prop}
    (h : PostO W.G W.C fr W.h₀ L m Y (VR W.G) ρ ((step W.tb ih).ev fi l (.comp elt ts tp it ifs sc p) σ) Q E s) : wpAny (model W.prog W.w) A (eval (toE W.G.nm (.comp elt ts tp it ifs sc p)) env) Q E s := by
  have h : PostO W.G W.C fr W.h₀ L m Y (VR W.G) ρ (bif scOk sc && tsOk sc ts then (ih.ev fi l it σ).bind fun x σ => bif srcOk σ x then
        compE σ.nxt ((ih.cmp ⟨ts.map (·.1), glbOf sc, fi.cc, []⟩ [] elt ts tp ifs (srcOf σ x) 0 σ)) else .stuck else .stuck) Q E s := h
  cases z : (scOk sc && tsOk sc ts) with
  | false => rw [z] at h; exact h.elim
  | true =>
  rw [z] at h
  obtain ⟨z1, z2⟩ := and3 z
  show wpAny _ _ (eval (.ListComp (toE W.G.nm elt) [⟨tgE W.G.nm ts tp, toE W.G.nm it, toEs W.G.nm ifs, 0⟩] (scE W.G.nm sc) p) env) Q E s
  refine wpAny_ListComp (fun x hx => by rcases scOk_kind z1 x hx with e | e <;> (rw [e]; decide)) rfl (scOk_names W.G.inj z1) (So.ev c S hl (PostO.bind' h fun x σ1 ρ1 xv s1 _ p1 S1 r1 h1 => ?_)) (fun v => noFold _ _ _ _)
  cases zs : srcOk σ1 x with
  | false => rw [zs] at h1; exact h1.elim
  | true =>
  rw [zs] at h1
  have h1 : PostO W.G W.C fr W.h₀ L m Y (VR W.G) ρ1 (compE σ1.nxt ((ih.cmp ⟨ts.map (·.1), glbOf sc, fi.cc, []⟩ [] elt ts tp ifs (srcOf σ1 x) 0 σ1))) Q E s1 := h1
  rcases compE_cases σ1.nxt (ih.cmp ⟨ts.map (·.1), glbOf sc, fi.cc, []⟩ [] elt ts tp ifs (srcOf σ1 x) 0 σ1) with e | ⟨v, σ', e⟩
  · rw [e] at h1; exact h1.elim
  · rw [e] at h1
    obtain ⟨vs, σ2, e1, rfl, rfl⟩ := compE_inv e
    refine comp_core So c S1 r1 zs z1 z2 e1 fun cenv D oL ρ' h' tk' mc' zs' n' hne nL pp S5 r5 => ?_
    refine ⟨mc', by obtain ⟨_, _, S5⟩ := S5; exact S5.F.ns, fun h2 hs2 => ?_⟩
    have S6 : St W.G W.h₀ L m ((D, PySem.W.listOf zs'.toArray n') :: Y) ρ' σ2 h2 := S5.swap.leaveBut nL S1.above fun b o hb e => hs2.extBut b o hb e
    have S7 := S6.adopt (fun q => by rcases q with ⟨_, _, q⟩ | ⟨_, q⟩ <;> cases q) (ao := .lst vs) (.lst n' (VRs.mono (pre_snoc ρ' D) r5))
    exact h1 (ρ' ++ [D]) _ h2 tk' (pp.trans (pre_snoc _ _)) (S7.drop _ _) (.ref (ix_of S6 D _))
theorem St.flip {h : Heap} {L L' : Addr} {m m' : PySem.Str → Option Value} {oL : Obj} {h₀ : Heap} (S : St G h₀ L' m' ((L, oL) :: Y) ρ σ h) (nL : NsOb oL m) (hab : h₀.objs.size ≤ L) : ∃ oL', NsOb oL' m' ∧ St G h₀ L m ((L', oL') :: Y) ρ σ h := by
  obtain ⟨news, X, S⟩ := S
  obtain ⟨oL', ho', nL'⟩ := NsOb.of S.F.ns
  have hab' := S.F.above
  have h0' : h₀.get? L' = none := by
    cases q : h₀.get? L' with
    | none => rfl
    | some o => exact absurd (Nat.lt_of_lt_of_le (Heap.lt_size q) hab') (Nat.lt_irrefl _)
  obtain ⟨X', S', k1, k2, _⟩ := S.leave nL hab
  refine ⟨oL', nL', news, (L', oL') :: X', ⟨S'.len, S'.F, fun p hp => ?_, ?_, S'.R, .cons ⟨rfl, .inl rfl⟩ S'.X⟩⟩
  · rcases List.mem_append.mp hp with q | q
    · exact S'.N p (List.mem_append_left _ q)
    · rcases List.mem_cons.mp q with rfl | q
      · exact ⟨ho', k2.symm, h0'⟩
      · exact S'.N p (List.mem_append_right _ q)
  · have pm : ((news ++ (L', oL') :: X').map (·.1)).Perm ((L' :: (news ++ X').map (·.1))) := by
      simpa using List.perm_middle (l₁ := news.map (·.1)) (l₂ := X'.map (·.1)) (a := L')
    refine (pm.nodup_iff).mpr (List.nodup_cons.mpr ⟨fun q => ?_, S'.nd⟩)
    obtain ⟨p, hp, e⟩ := List.mem_map.mp q
    exact k1 p hp e
theorem comp_asg (So : Sound W ih) (c : Cx W L Y fi env A fr) (S : St W.G W.h₀ L m Y ρ σ s.heap) (hl : LR W.G env ρ l m) {x : Nat} {xp ap : Pos} {elt : PE} {ts : List (Nat × Pos)} {tp : Option Pos} {it : PE} {ifs : PEs} {sc : List (Nat × Nat)} {p : Pos} {Q : Flow → Shared → Prop}
    (h : PostS W env fr L Y ρ (bif notSc sc x && Nat.beq xp.line p.line && nelem fi.locs x && scOk sc && tsOk sc ts then (ih.ev fi l it σ).bindS fun y σ => bif srcOk σ y then
        asgC l x (compE σ.nxt (ih.cmp ⟨ts.map (·.1), glbOf sc, fi.cc, []⟩ [] elt ts tp ifs (srcOf σ y) 0 σ)) else .stuck else .stuck) Q E s) :
    wpAny (model W.prog W.w) A (exec (toS W.G.nm (.asg x xp (.comp elt ts tp it ifs sc p) ap)) env) Q E s := by
  cases z : (notSc sc x && Nat.beq xp.line p.line && nelem fi.locs x && scOk sc && tsOk sc ts) with
  | false => rw [z] at h; exact h.elim
  | true =>
  rw [z] at h
  obtain ⟨z, z2⟩ := and3 z
  obtain ⟨z, z1⟩ := and3 z
  obtain ⟨z, z3⟩ := and3 z
  obtain ⟨z5, z4⟩ := and3 z
  have z4 := Nat.eq_of_beq_eq_true z4
  show wpAny _ _ (exec (.Assign [.Name (W.G.nm x) xp] (.ListComp (toE W.G.nm elt) [⟨tgE W.G.nm ts tp, toE W.G.nm it, toEs W.G.nm ifs, 0⟩] (scE W.G.nm sc) p) ap) env) Q E s
  have hsw : swapsWith (.ListComp (toE W.G.nm elt) [⟨tgE W.G.nm ts tp, toE W.G.nm it, toEs W.G.nm ifs, 0⟩] (scE W.G.nm sc) p) (some (.Name (W.G.nm x) xp)) ap.line env = pure true := by
    show (pure (env.blockKind == .function && env.kindOf (W.G.nm x) == some .local && xp.line == p.line && !((scE W.G.nm sc).names.any fun (n, k) => n == W.G.nm x && (k == .local || k == .cell))) : Sem Bool) = pure true
    have e1 : env.blockKind = .function := by unfold Env.blockKind; rw [c.fk]; rfl
    have e2 : ((scE W.G.nm sc).names.any fun (n, k) => n == W.G.nm x && (k == .local || k == .cell)) = false := by
      rw [List.any_eq_false]
      intro q hq hh
      obtain ⟨r, hr, rfl⟩ := List.mem_map.mp hq
      have hh : (W.G.nm r.1 == W.G.nm x && (scK r.2 == .local || scK r.2 == .cell)) = true := hh
      obtain ⟨h1, h2⟩ := and3 hh
      have e := W.G.inj _ _ (beq_iff_eq.mp h1)
      have := List.all_eq_true.mp z1 r hr
      obtain ⟨k1, k2⟩ := and3 this
      have k1 : r.2 ≤ 1 := Nat.le_of_ble_eq_true k1
      rw [e] at k2
      unfold notSc at z5
      cases za : aget sc x with
      | none => rw [za] at k2; cases k2
      | some k =>
        rw [za] at k2 z5
        have k3 : k = r.2 := Nat.eq_of_beq_eq_true k2
        subst k3
        rcases (by omega : r.2 = 0 ∨ r.2 = 1) with e0 | e0
        · rw [e0] at z5; cases z5
        · rw [e0] at h2; cases h2
    rw [e1, e2, c.li x z3, z4]
    simp
  rw [exec_Assign_Name_used _ _ _ _ hsw]
  refine wpAny_bind (wpAny_standAt (wpAny_bind ?_))
  show wpAny _ A (do let _ ← comprehension (.ListComp (toE W.G.nm elt) [⟨tgE W.G.nm ts tp, toE W.G.nm it, toEs W.G.nm ifs, 0⟩] (scE W.G.nm sc) p) (scE W.G.nm sc) env _ (newList []) false (eval (toE W.G.nm it) env) (some (assign (.Name (W.G.nm x) xp) env))) _ _ s
  refine wpAny_bind (wpAny_mono (wpAny_comprehension_use (Q := fun _ s' => Q .next s') rfl (fun v => noFold _ _ _ _) (fun x hx => by rcases scOk_kind z1 x hx with e | e <;> (rw [e]; decide)) rfl (scOk_names W.G.inj z1)
    (So.ev c S hl (PostS.bind h fun y σ1 ρ1 xv s1 _ p1 S1 r1 h1 => ?_))) (fun _ s' hq => wpAny_pure (wpAny_pure hq)) fun _ _ e => e)
  cases zs : srcOk σ1 y with
  | false => rw [zs] at h1; exact h1.elim
  | true =>
  rw [zs] at h1
  have h1 : PostS W env fr L Y ρ1 (asgC l x (compE σ1.nxt ((ih.cmp ⟨ts.map (·.1), glbOf sc, fi.cc, []⟩ [] elt ts tp ifs (srcOf σ1 y) 0 σ1)))) Q E s1 := h1
  rcases compE_cases σ1.nxt (ih.cmp ⟨ts.map (·.1), glbOf sc, fi.cc, []⟩ [] elt ts tp ifs (srcOf σ1 y) 0 σ1) with e | ⟨v, σ', e⟩
  · rw [e] at h1; exact h1.elim
  · rw [e] at h1
    obtain ⟨vs, σ2, e1, rfl, rfl⟩ := compE_inv e
    refine comp_core So c S1 r1 zs z1 z2 e1 fun cenv D oL ρ' h' tk' mc' zs' n' hne nL pp S5 r5 => ?_
    obtain ⟨oC, nC, S6⟩ := S5.swap.flip nL S1.above
    have S7 := S6.swap.adopt (fun q => by rcases q with ⟨_, _, q⟩ | ⟨_, q⟩ <;> cases q) (ao := .lst vs) (.lst n' (VRs.mono (pre_snoc ρ' D) r5))
    have c7 : Cx W L ((cenv.locals, oC) :: Y) fi env A fr :=
      { c with
        ff := fun e he => by
          obtain ⟨k1, a, k2, k3⟩ := c.ff e he
          refine ⟨k1, a, k2, ?_⟩
          rcases k3 with k3 | ⟨o, es, n, k3, k4⟩
          · exact .inl k3
          · exact .inr ⟨o, es, n, .tail _ k3, k4⟩
        ce := fun x a e => by
          obtain ⟨q, o, v, h1, h2, h3, h4, h5⟩ := c.ce x a e
          exact ⟨q, o, v, h1, h2, .tail _ h3, h4, h5⟩ }
    refine wpAny_assign_Name (store_sound (s := { s1 with heap := h', toks := tk' }) c7 S7 ((hl.mono p1).mono (pp.trans (pre_snoc _ _))) z3 (.ref (ix_of S6.swap D (.lst vs))) fun h2 m2 S8 hl8 => ?_)
    obtain ⟨o', g1, g2, _, _⟩ := S8.mem (.head _)
    have n' : NsOb o' mc' := by
      rcases g2 with g2 | ⟨_, sl, g2⟩
      · rw [g2]; exact nC
      · rw [g2]; exact ⟨nC.dt⟩
    refine ⟨mc', n'.ns g1, fun h3 hs3 => ?_⟩
    have S9 : St W.G W.h₀ L m2 Y (ρ' ++ [D]) (Mine.alloc σ2 (.lst vs)).2 h3 := S8.forget fun b ob hb e => hs3.extBut b ob hb e
    exact h1 (ρ' ++ [D]) m2 h3 _ (pp.trans (pre_snoc _ _)) (S9.drop _ _) hl8
end
end Mine
end

section
set_option maxRecDepth 100000
namespace Mine
open PySem PySem.W PyProof.Rows PySem.Calls PySem.SeqAt
section
variable {W : Wd} {L : Addr} {Y : List (Addr × Obj)} {fi : FI} {env : Env} {A : Around} {fr : List Env} {m : PySem.Str → Option Value} {l : Loc} {σ : Sig} {ρ ρ' : List Addr} {s : Shared} {E E' : Value → Shared → Prop} {ih : Itp} {G : Mn}
  {Q : Flow → Shared → Prop}
theorem ex_step (Sa : Sta W) (Nx : NewExcOk W) (Xc : ExcCls W) (So : SoundS W ih) (c : Cs W L Y fi env A fr) (S : St W.G W.h₀ L m Y ρ σ s.heap) (hl : LR W.G env ρ l m) {st : PS}
    (h : PostS W env fr L Y ρ ((step W.tb ih).ex fi l st σ) Q E s) : wpAny (model W.prog W.w) A (exec (toS W.G.nm st) env) Q E s := by
  cases st with
  | asg x xp e p =>
    cases e with
    | comp elt ts tp it ifs sc cp => exact comp_asg So.toSound c.toCx S hl h
    | _ => exact ex_asg So.toSound c.toCx S hl rfl h
  | asgT xs tp e p =>
    cases xs with
    | nil => exact h.elim
    | cons q xs =>
    obtain ⟨x, xp⟩ := q
    cases xs with
    | nil => exact h.elim
    | cons q xs =>
    obtain ⟨y, yp⟩ := q
    cases xs with
    | cons q xs => exact h.elim
    | nil =>
    cases e with
    | tup es vp =>
      cases es with
      | nil => exact h.elim
      | cons a es =>
      cases es with
      | nil => exact h.elim
      | cons b es =>
      cases es with
      | nil => exact ex_swap Sa So.toSound c.toCx S hl h
      | cons d es => exact h.elim
    | loc z zp => exact ex_unp So.toSound c.toCx S hl rfl rfl h
    | call f as cp => exact ex_unp So.toSound c.toCx S hl rfl rfl h
    | _ => exact h.elim
  | asgA o n np e p =>
    cases o with
    | loc u up =>
      have h : PostS W env fr L Y ρ (bif noComp e then (ih.ev fi l e σ).bindS fun v σ => (ih.ev fi l (.loc u up) σ).bindS fun x σ => setA W.tb l x n v σ else .stuck) Q E s := h
      cases z : noComp e with
      | false => rw [z] at h; exact h.elim
      | true => rw [z] at h; exact ex_asgA Sa So.toSound c.toCx S hl z h
    | _ => exact h.elim
  | asgS o i sp e p =>
    cases o with
    | loc u up =>
      have h : PostS W env fr L Y ρ (bif noComp e then (ih.ev fi l e σ).bindS fun v σ => (ih.ev fi l (.loc u up) σ).bindS fun x σ => (ih.ev fi l i σ).bindS fun y σ => setI l x y v σ else .stuck) Q E s := h
      cases z : noComp e with
      | false => rw [z] at h; exact h.elim
      | true => rw [z] at h; exact ex_asgS Sa So.toSound c.toCx S hl z h
    | _ => exact h.elim
  | ret e p => exact ex_ret So.toSound c.toCx S hl h
  | retN p => exact wpAny_Return_none (h ρ m .none s.heap s.toks (List.prefix_refl _) S .none)
  | ifs t a b p => exact ex_ifs So c S hl h
  | whl t b p => exact ex_whl So c S hl h
  | for_ x xp it b p => exact ex_for So c S hl h
  | exp e p =>
    have h : PostS W env fr L Y ρ (bif noComp e then (ih.ev fi l e σ).bindS fun v σ => isNone l v σ else .stuck) Q E s := h
    cases z : noComp e with
    | false => rw [z] at h; exact h.elim
    | true => rw [z] at h; exact ex_exp So.toSound c.toCx S hl z h
  | rais e p =>
    cases e with
    | call f as cp =>
      cases f with
      | glb x xp =>
        cases as with
        | nil => exact h.elim
        | cons a r =>
          cases r with
          | nil => exact ex_rais Sa Nx Xc So.toSound c S hl h
          | cons b r => exact h.elim
      | _ => exact h.elim
    | _ => exact h.elim
  | tri b ty hd hp p =>
    cases ty with
    | glb x xp =>
      cases hd with
      | nil => exact h.elim
      | cons st r =>
        cases r with
        | cons _ _ => cases st with
          | ret e rp => cases e <;> exact h.elim
          | _ => exact h.elim
        | nil =>
          cases st with
          | ret e rp =>
            cases e with
            | cst k kp => exact ex_tri Sa Xc So c S hl h
            | _ => exact h.elim
          | _ => exact h.elim
    | _ => exact h.elim
theorem sound_step (Sa : Sta W) (Fg : FigOk W) (Nx : NewExcOk W) (Xc : ExcCls W) (So : SoundS W ih) : SoundS W (step W.tb ih) where
  ev := fun c S hl h => ev_step Sa Fg So.toSound (fun h' => comp_ev So.toSound c S hl h') c S hl h
  evs := fun c S hl h => evs_step So.toSound c S hl h
  tr := fun c S hl h => tr_step Sa So.toSound c S hl h
  trs := fun c S hl h whole => trs_step So.toSound c S hl h whole
  cl := fun c S ha h => cl_step Sa So c S ha h
  cmp := fun c S hl hi hj ht he K => cmp_step So.toSound c S hl hi hj ht he K
  ex := fun c S hl h => ex_step Sa Nx Xc So c S hl h
  exs := fun c S hl h => exs_step So c S hl h
  whl := fun c S hl h => whl_step So c S hl h
  fr := fun c S hl hx hI h => fr_step So c S hl hx hI h
theorem sound_bot : SoundS W bot where
  ev := fun _ _ _ h => h.elim
  evs := fun _ _ _ h => h.elim
  tr := fun _ _ _ h => h.elim
  trs := fun _ _ _ h => h.elim
  cl := fun _ _ _ h => h.elim
  cmp := fun _ _ _ _ _ _ he _ => nomatch he
  ex := fun _ _ _ h => h.elim
  exs := fun _ _ _ h => h.elim
  whl := fun _ _ _ h => h.elim
  fr := fun _ _ _ _ _ h => h.elim
/-- the interpreter is sound -/
theorem sound (Sa : Sta W) (Fg : FigOk W) (Nx : NewExcOk W) (Xc : ExcCls W) : ∀ n, SoundS W (run W.tb n)
  | 0 => sound_bot
  | n + 1 => sound_step Sa Fg Nx Xc (sound Sa Fg Nx Xc n)
end
end Mine
end

section
set_option maxRecDepth 100000
namespace Mine
open PySem PySem.W PyProof.Rows PySem.Calls PySem.SeqAt
section
variable {G : Mn} {ρ : List Addr}
theorem zipP_plain : ∀ {xs : List Nat} {as : List AV} {l : Loc}, zipP xs as [] = some l → xs.length = as.length ∧ l = xs.zip as
  | [], [], l, h => ⟨rfl, (Option.some.inj h).symm⟩
  | [], _ :: _, _, h => by cases h
  | x :: r, [], l, h => by
    have h : (bif Nat.ble (r.length + 1) 0 then some ((x :: r).zip (([] : List AV).drop (0 - (r.length + 1)))) else none) = some l := h
    have e : Nat.ble (r.length + 1) 0 = false := rfl
    rw [e] at h
    cases h
  | x :: r, v :: t, l, h => by
    have h : (zipP r t []).map ((x, v) :: ·) = some l := h
    cases z : zipP r t [] with
    | none => rw [z] at h; cases h
    | some l' =>
      rw [z] at h
      obtain ⟨h1, h2⟩ := zipP_plain z
      exact ⟨by rw [List.length_cons, List.length_cons, h1], by rw [← Option.some.inj h, h2]; rfl⟩
theorem aget_zip_mem {α : Type} : ∀ {xs : List Nat} {as : List α} {x : Nat} {a : α}, aget (xs.zip as) x = some a → x ∈ xs
  | [], _, _, _, h => by cases h
  | _ :: _, [], _, _, h => by cases h
  | y :: r, b :: t, x, a, h => by
    rw [List.zip_cons_cons] at h
    unfold aget at h
    cases z : Nat.beq y x with
    | true => rw [Nat.eq_of_beq_eq_true z]; exact .head _
    | false => rw [z] at h; exact .tail _ (aget_zip_mem h)
theorem lookup_append_none {α β : Type} [BEq α] {l l' : List (α × β)} {x : α} (h : l.lookup x = none) : (l ++ l').lookup x = l'.lookup x := by
  induction l with
  | nil => rfl
  | cons p r ih =>
    rw [List.lookup_cons] at h
    rw [List.cons_append, List.lookup_cons]
    cases z : (x == p.1) with
    | true => rw [z] at h; cases h
    | false => rw [z] at h; exact ih h
theorem lookup_append_some {α β : Type} [BEq α] {l l' : List (α × β)} {x : α} {v : β} (h : l.lookup x = some v) : (l ++ l').lookup x = some v := by
  induction l with
  | nil => cases h
  | cons p r ih =>
    rw [List.lookup_cons] at h
    rw [List.cons_append, List.lookup_cons]
    cases z : (x == p.1) with
    | true => rw [z] at h; exact h
    | false => rw [z] at h; exact ih h
theorem lookup_rev_none {nm : Nat → PySem.Str} (inj : ∀ i j, nm i = nm j → i = j) : ∀ {xs : List Nat} {vs : List Value} {x : Nat}, x ∉ xs → ((xs.map nm).zip vs).reverse.lookup (nm x) = none
  | [], _, _, _ => by simp
  | _ :: _, [], _, _ => by simp
  | y :: r, v :: t, x, h => by
    rw [List.map_cons, List.zip_cons_cons, List.reverse_cons]
    rw [lookup_append_none (lookup_rev_none inj fun q => h (.tail _ q))]
    have : (nm x == nm y) = false := beq_eq_false_iff_ne.mpr fun e => h (by rw [inj _ _ e]; exact .head _)
    rw [List.lookup_cons, this]
    rfl
theorem lookup_rev {nm : Nat → PySem.Str} (inj : ∀ i j, nm i = nm j → i = j) : ∀ {xs : List Nat} {as : List AV} {vs : List Value} {x : Nat} {a : AV}, xs.Nodup → VRs G ρ as vs → aget (xs.zip as) x = some a →
    ∃ v, ((xs.map nm).zip vs).reverse.lookup (nm x) = some v ∧ VR G ρ a v
  | [], _, _, _, _, _, _, h => by cases h
  | _ :: _, [], _, _, _, _, _, h => by cases h
  | y :: r, b :: t, _, x, a, nd, .cons (b := v) (m := vs) rb rt, h => by
    rw [List.nodup_cons] at nd
    rw [List.zip_cons_cons] at h
    unfold aget at h
    rw [List.map_cons, List.zip_cons_cons, List.reverse_cons]
    cases z : Nat.beq y x with
    | true =>
      have e := Nat.eq_of_beq_eq_true z
      subst e
      rw [z] at h
      cases h
      refine ⟨v, ?_, rb⟩
      rw [lookup_append_none (lookup_rev_none inj nd.1), List.lookup_cons, beq_self_eq_true]
    | false =>
      rw [z] at h
      obtain ⟨u, h1, h2⟩ := lookup_rev inj nd.2 rt h
      exact ⟨u, lookup_append_some h1, h2⟩
/-- a function without defaults takes its arguments -/
theorem bind_plain {W : Wd} {R : FnRec} {fd : FuncData} (hd : R.dflts = []) (nd : R.params.Nodup) (hl : ∀ x ∈ R.params, nelem R.locs x = true) (locs : ∀ x, nelem R.locs x = true → fd.scope.names.lookup (W.G.nm x) = some .local)
    (hb : ∀ (vs : List Value) (s : Shared), vs.length = R.params.length → W.K.In s.heap → BindsTo s fd ⟨vs, []⟩ ((R.params.map W.G.nm).zip vs)) :
    ∀ {as l vs ρ} {s : Shared}, zipP R.params as R.dflts = some l → VRs W.G ρ as vs → W.K.In s.heap → ∃ binds, BindsTo s fd ⟨vs, []⟩ binds ∧ (∀ y ∈ binds, fd.scope.names.lookup y.1 = some .local) ∧
    ∀ x a, aget l x = some a → ∃ v, binds.reverse.lookup (W.G.nm x) = some v ∧ VR W.G ρ a v ∧ fd.scope.names.lookup (W.G.nm x) = some .local := by
  intro as l vs ρ s hz r KI
  rw [hd] at hz
  obtain ⟨h1, rfl⟩ := zipP_plain hz
  refine ⟨_, hb vs s (by rw [VRs_len r, h1]) KI, fun y hy => ?_, fun x a e => ?_⟩
  · have := (List.of_mem_zip (a := y.1) (b := y.2) hy).1
    obtain ⟨x, hx, e⟩ := List.mem_map.mp this
    rw [← e]
    exact locs x (hl x hx)
  · obtain ⟨v, e1, e2⟩ := lookup_rev W.G.inj nd r e
    exact ⟨v, e1, e2, locs x (hl x (aget_zip_mem e))⟩
end
end Mine
end

section
namespace Mine
set_option maxRecDepth 100000
set_option maxHeartbeats 0
noncomputable def b_Shape_init : PSs :=
  (.cons (.asgA (.loc 1 ⟨23,8,23,12⟩) 0 ⟨23,8,23,21⟩ (.loc 0 ⟨23,24,23,32⟩) ⟨23,8,23,32⟩) (.cons (.asgA (.loc 1 ⟨24,8,24,12⟩) 2 ⟨24,8,24,17⟩ (.loc 2 ⟨24,20,24,24⟩) ⟨24,8,24,24⟩) (.cons (.asgA (.loc 1 ⟨25,8,25,12⟩) 3 ⟨25,8,25,20⟩ (.loc 3 ⟨25,23,25,30⟩) ⟨25,8,25,30⟩) (.cons (.asgA (.loc 1 ⟨26,8,26,12⟩) 4 ⟨26,8,26,18⟩ (.loc 4 ⟨26,21,26,26⟩) ⟨26,8,26,26⟩) (.cons (.asgA (.loc 1 ⟨27,8,27,12⟩) 5 ⟨27,8,27,17⟩ (.loc 5 ⟨27,20,27,24⟩) ⟨27,8,27,24⟩) (.cons (.asgA (.loc 1 ⟨28,8,28,12⟩) 6 ⟨28,8,28,24⟩ (.loc 6 ⟨28,27,28,38⟩) ⟨28,8,28,38⟩) (.cons (.asgA (.loc 1 ⟨29,8,29,12⟩) 7 ⟨29,8,29,25⟩ (.loc 7 ⟨29,28,29,40⟩) ⟨29,8,29,40⟩) (.cons (.asgA (.loc 1 ⟨30,8,30,12⟩) 8 ⟨30,8,30,26⟩ (.loc 8 ⟨30,29,30,42⟩) ⟨30,8,30,42⟩) (.cons (.asgA (.loc 1 ⟨31,8,31,12⟩) 9 ⟨31,8,31,19⟩ (.cst (.int 0) ⟨31,22,31,23⟩) ⟨31,8,31,23⟩) (.cons (.asgA (.loc 1 ⟨32,8,32,12⟩) 10 ⟨32,8,32,18⟩ (.cst (.int 0) ⟨32,21,32,22⟩) ⟨32,8,32,22⟩) (.cons (.asgA (.loc 1 ⟨33,8,33,12⟩) 11 ⟨33,8,33,22⟩ (.cst (.bool false) ⟨33,25,33,30⟩) ⟨33,8,33,30⟩) (.cons (.ifs (.bop .And (.cons (.cmp (.loc 3 ⟨34,11,34,18⟩) .IsNot (.cst .none ⟨34,26,34,30⟩) ⟨34,11,34,30⟩) (.cons (.cmp (.loc 0 ⟨34,35,34,43⟩) .In (.tup (.cons (.cst (.str [110,117,109,101,114,105,99]) ⟨34,48,34,57⟩) (.cons (.cst (.str [101,100,105,116,101,100]) ⟨34,59,34,67⟩) .nil)) ⟨34,47,34,68⟩) ⟨34,35,34,68⟩) .nil)) ⟨34,11,34,68⟩) (.cons (.asgA (.loc 1 ⟨35,12,35,16⟩) 9 ⟨35,12,35,23⟩ (.att (.loc 3 ⟨35,26,35,33⟩) 9 ⟨35,26,35,40⟩) ⟨35,12,35,40⟩) (.cons (.asgA (.loc 1 ⟨36,12,36,16⟩) 10 ⟨36,12,36,22⟩ (.att (.loc 3 ⟨36,25,36,32⟩) 10 ⟨36,25,36,38⟩) ⟨36,12,36,38⟩) (.cons (.asgA (.loc 1 ⟨37,12,37,16⟩) 11 ⟨37,12,37,26⟩ (.att (.loc 3 ⟨37,29,37,36⟩) 11 ⟨37,29,37,46⟩) ⟨37,12,37,46⟩) .nil))) .nil ⟨34,8,37,46⟩) .nil))))))))))))
noncomputable def b_Shape_told : PSs :=
  (.cons (.asg 12 ⟨40,8,40,15⟩ (.tup (.cons (.att (.loc 1 ⟨40,19,40,23⟩) 5 ⟨40,19,40,28⟩) (.cons (.att (.loc 1 ⟨40,30,40,34⟩) 6 ⟨40,30,40,46⟩) (.cons (.att (.loc 1 ⟨40,48,40,52⟩) 7 ⟨40,48,40,65⟩) (.cons (.att (.loc 1 ⟨40,67,40,71⟩) 8 ⟨40,67,40,85⟩) .nil)))) ⟨40,18,40,86⟩) ⟨40,8,40,86⟩) (.cons (.asg 13 ⟨41,8,41,14⟩ (.tup (.cons (.att (.loc 1 ⟨41,18,41,22⟩) 9 ⟨41,18,41,29⟩) (.cons (.att (.loc 1 ⟨41,31,41,35⟩) 10 ⟨41,31,41,41⟩) (.cons (.att (.loc 1 ⟨41,43,41,47⟩) 11 ⟨41,43,41,57⟩) .nil))) ⟨41,17,41,58⟩) ⟨41,8,41,58⟩) (.cons (.asg 3 ⟨42,8,42,15⟩ (.ife (.cmp (.att (.loc 1 ⟨42,26,42,30⟩) 3 ⟨42,26,42,38⟩) .Is (.cst .none ⟨42,42,42,46⟩) ⟨42,26,42,46⟩) (.cst .none ⟨42,18,42,22⟩) (.mcall (.att (.loc 1 ⟨42,52,42,56⟩) 3 ⟨42,52,42,64⟩) 14 ⟨42,52,42,69⟩ .nil ⟨42,52,42,71⟩) ⟨42,18,42,71⟩) ⟨42,8,42,71⟩) (.cons (.ret (.tup (.cons (.att (.loc 1 ⟨43,16,43,20⟩) 0 ⟨43,16,43,29⟩) (.cons (.att (.loc 1 ⟨43,31,43,35⟩) 2 ⟨43,31,43,40⟩) (.cons (.loc 3 ⟨43,42,43,49⟩) (.cons (.att (.loc 1 ⟨43,51,43,55⟩) 4 ⟨43,51,43,61⟩) (.cons (.loc 12 ⟨43,63,43,70⟩) (.cons (.loc 13 ⟨43,72,43,78⟩) .nil)))))) ⟨43,15,43,79⟩) ⟨43,8,43,79⟩) .nil))))
noncomputable def b_Shape_sign_place : PSs :=
  (.cons (.ifs (.bop .Or (.cons (.cmp (.att (.loc 1 ⟨46,11,46,15⟩) 0 ⟨46,11,46,24⟩) .NotEq (.cst (.str [110,117,109,101,114,105,99]) ⟨46,28,46,37⟩) ⟨46,11,46,37⟩) (.cons (.cmp (.att (.loc 1 ⟨46,41,46,45⟩) 4 ⟨46,41,46,51⟩) .NotEq (.cst (.str [100,105,115,112,108,97,121]) ⟨46,55,46,64⟩) ⟨46,41,46,64⟩) (.cons (.un .Not (.att (.loc 1 ⟨46,73,46,77⟩) 11 ⟨46,73,46,87⟩) ⟨46,69,46,87⟩) .nil))) ⟨46,11,46,88⟩) (.cons (.ret (.un .USub (.cst (.int 1) ⟨47,20,47,21⟩) ⟨47,19,47,21⟩) ⟨47,12,47,21⟩) .nil) .nil ⟨46,8,47,21⟩) (.cons (.ret (.ife (.cmp (.att (.loc 1 ⟨48,20,48,24⟩) 5 ⟨48,20,48,29⟩) .Eq (.cst (.str [108,101,97,100,105,110,103]) ⟨48,33,48,42⟩) ⟨48,20,48,42⟩) (.cst (.int 0) ⟨48,15,48,16⟩) (.bin .Sub (.att (.loc 1 ⟨48,48,48,52⟩) 2 ⟨48,48,48,57⟩) (.cst (.int 1) ⟨48,60,48,61⟩) ⟨48,48,48,61⟩) ⟨48,15,48,61⟩) ⟨48,8,48,61⟩) .nil))
noncomputable def b_is_numeric : PSs :=
  (.cons (.ret (.cmp (.att (.loc 15 ⟨50,11,50,16⟩) 0 ⟨50,11,50,25⟩) .Eq (.cst (.str [110,117,109,101,114,105,99]) ⟨50,29,50,38⟩) ⟨50,11,50,38⟩) ⟨50,4,50,38⟩) .nil)
noncomputable def b_has_units : PSs :=
  (.cons (.ret (.cmp (.att (.loc 15 ⟨52,11,52,16⟩) 0 ⟨52,11,52,25⟩) .In (.tup (.cons (.cst (.str [110,117,109,101,114,105,99]) ⟨52,30,52,39⟩) (.cons (.cst (.str [105,110,100,101,120]) ⟨52,41,52,48⟩) .nil)) ⟨52,29,52,49⟩) ⟨52,11,52,49⟩) ⟨52,4,52,49⟩) .nil)
noncomputable def b_unit_bound : PSs :=
  (.cons (.ret (.bin .Pow (.cst (.int 10) ⟨54,11,54,13⟩) (.att (.loc 15 ⟨54,17,54,22⟩) 9 ⟨54,17,54,29⟩) ⟨54,11,54,29⟩) ⟨54,4,54,29⟩) .nil)
noncomputable def b_binary_width : PSs :=
  (.cons (.ifs (.un .Not (.cmp2 (.cst (.int 1) ⟨56,11,56,12⟩) .LtE (.loc 9 ⟨56,16,56,22⟩) .LtE (.glb 16 ⟨56,26,56,44⟩) ⟨56,11,56,44⟩) ⟨56,7,56,44⟩) (.cons (.rais (.call (.glb 17 ⟨57,14,57,23⟩) (.cons (.cst (.str [97,32,110,117,109,98,101,114,32,104,97,115,32,49,32,116,111,32,49,56,32,102,105,103,117,114,101,115]) ⟨57,24,57,54⟩) .nil) ⟨57,14,57,55⟩) ⟨57,8,57,55⟩) .nil) .nil ⟨56,4,57,55⟩) (.cons (.ifs (.cmp (.loc 9 ⟨58,7,58,13⟩) .LtE (.cst (.int 4) ⟨58,17,58,18⟩) ⟨58,7,58,18⟩) (.cons (.ret (.cst (.int 2) ⟨59,15,59,16⟩) ⟨59,8,59,16⟩) .nil) .nil ⟨58,4,59,16⟩) (.cons (.ret (.ife (.cmp (.loc 9 ⟨60,16,60,22⟩) .LtE (.cst (.int 9) ⟨60,26,60,27⟩) ⟨60,16,60,27⟩) (.cst (.int 4) ⟨60,11,60,12⟩) (.cst (.int 8) ⟨60,33,60,34⟩) ⟨60,11,60,34⟩) ⟨60,4,60,34⟩) .nil)))
noncomputable def b_packed_width : PSs :=
  (.cons (.ifs (.un .Not (.cmp2 (.cst (.int 1) ⟨62,11,62,12⟩) .LtE (.loc 9 ⟨62,16,62,22⟩) .LtE (.glb 16 ⟨62,26,62,44⟩) ⟨62,11,62,44⟩) ⟨62,7,62,44⟩) (.cons (.rais (.call (.glb 17 ⟨63,14,63,23⟩) (.cons (.cst (.str [97,32,110,117,109,98,101,114,32,104,97,115,32,49,32,116,111,32,49,56,32,102,105,103,117,114,101,115]) ⟨63,24,63,54⟩) .nil) ⟨63,14,63,55⟩) ⟨63,8,63,55⟩) .nil) .nil ⟨62,4,63,55⟩) (.cons (.ret (.bin .Add (.bin .FloorDiv (.loc 9 ⟨64,11,64,17⟩) (.cst (.int 2) ⟨64,21,64,22⟩) ⟨64,11,64,22⟩) (.cst (.int 1) ⟨64,25,64,26⟩) ⟨64,11,64,26⟩) ⟨64,4,64,26⟩) .nil))
noncomputable def b_size_for : PSs :=
  (.cons (.ifs (.cmp (.loc 4 ⟨66,7,66,12⟩) .Eq (.cst (.str [112,97,99,107,101,100]) ⟨66,16,66,24⟩) ⟨66,7,66,24⟩) (.cons (.ret (.call (.glb 18 ⟨67,15,67,27⟩) (.cons (.att (.loc 3 ⟨67,28,67,35⟩) 9 ⟨67,28,67,42⟩) .nil) ⟨67,15,67,43⟩) ⟨67,8,67,43⟩) .nil) .nil ⟨66,4,67,43⟩) (.cons (.ifs (.cmp (.loc 4 ⟨68,7,68,12⟩) .Eq (.cst (.str [98,105,110,97,114,121]) ⟨68,16,68,24⟩) ⟨68,7,68,24⟩) (.cons (.ret (.call (.glb 19 ⟨69,15,69,27⟩) (.cons (.att (.loc 3 ⟨69,28,69,35⟩) 9 ⟨69,28,69,42⟩) .nil) ⟨69,15,69,43⟩) ⟨69,8,69,43⟩) .nil) .nil ⟨68,4,69,43⟩) (.cons (.ret (.bin .Add (.att (.loc 3 ⟨70,11,70,18⟩) 2 ⟨70,11,70,23⟩) (.ife (.loc 6 ⟨70,32,70,43⟩) (.cst (.int 1) ⟨70,27,70,28⟩) (.cst (.int 0) ⟨70,49,70,50⟩) ⟨70,27,70,50⟩) ⟨70,11,70,51⟩) ⟨70,4,70,51⟩) .nil)))
noncomputable def b_check_usage : PSs :=
  (.cons (.ifs (.cmp (.loc 4 ⟨72,7,72,12⟩) .NotIn (.mcall (.glb 20 ⟨72,20,72,26⟩) 21 ⟨72,20,72,32⟩ (.cons (.cst (.str [32]) ⟨72,33,72,36⟩) .nil) ⟨72,20,72,37⟩) ⟨72,7,72,37⟩) (.cons (.rais (.call (.glb 17 ⟨73,14,73,23⟩) (.cons (.bin .Add (.cst (.str [110,111,32,117,115,97,103,101,58,32]) ⟨73,24,73,36⟩) (.loc 4 ⟨73,39,73,44⟩) ⟨73,24,73,44⟩) .nil) ⟨73,14,73,45⟩) ⟨73,8,73,45⟩) .nil) .nil ⟨72,4,73,45⟩) (.cons (.ifs (.cmp (.loc 4 ⟨74,7,74,12⟩) .Eq (.cst (.str [105,110,100,101,120]) ⟨74,16,74,23⟩) ⟨74,7,74,23⟩) (.cons (.rais (.call (.glb 17 ⟨75,14,75,23⟩) (.cons (.cst (.str [97,110,32,105,110,100,101,120,32,104,97,115,32,110,111,32,112,105,99,116,117,114,101]) ⟨75,24,75,49⟩) .nil) ⟨75,14,75,50⟩) ⟨75,8,75,50⟩) .nil) .nil ⟨74,4,75,50⟩) (.cons (.ifs (.bop .And (.cons (.cmp (.loc 4 ⟨76,7,76,12⟩) .NotEq (.cst (.str [100,105,115,112,108,97,121]) ⟨76,16,76,25⟩) ⟨76,7,76,25⟩) (.cons (.cmp (.att (.loc 3 ⟨76,30,76,37⟩) 0 ⟨76,30,76,46⟩) .NotEq (.cst (.str [110,117,109,101,114,105,99]) ⟨76,50,76,59⟩) ⟨76,30,76,59⟩) .nil)) ⟨76,7,76,59⟩) (.cons (.rais (.call (.glb 17 ⟨77,14,77,23⟩) (.cons (.cst (.str [111,110,108,121,32,110,117,109,98,101,114,115,32,97,114,101,32,112,97,99,107,101,100,32,111,114,32,98,105,110,97,114,121]) ⟨77,24,77,59⟩) .nil) ⟨77,14,77,60⟩) ⟨77,8,77,60⟩) .nil) .nil ⟨76,4,77,60⟩) .nil)))
noncomputable def b_check_sign : PSs :=
  (.cons (.ifs (.bop .And (.cons (.cmp (.loc 5 ⟨79,7,79,11⟩) .NotEq (.cst (.str [108,101,97,100,105,110,103]) ⟨79,15,79,24⟩) ⟨79,7,79,24⟩) (.cons (.cmp (.loc 5 ⟨79,29,79,33⟩) .NotEq (.cst (.str [116,114,97,105,108,105,110,103]) ⟨79,37,79,47⟩) ⟨79,29,79,47⟩) .nil)) ⟨79,7,79,47⟩) (.cons (.rais (.call (.glb 17 ⟨80,14,80,23⟩) (.cons (.cst (.str [97,32,115,105,103,110,32,108,101,97,100,115,32,111,114,32,116,114,97,105,108,115]) ⟨80,24,80,48⟩) .nil) ⟨80,14,80,49⟩) ⟨80,8,80,49⟩) .nil) .nil ⟨79,4,80,49⟩) (.cons (.ifs (.bop .And (.cons (.cmp (.loc 5 ⟨81,7,81,11⟩) .Eq (.cst (.str [116,114,97,105,108,105,110,103]) ⟨81,15,81,25⟩) ⟨81,7,81,25⟩) (.cons (.un .Not (.loc 6 ⟨81,35,81,46⟩) ⟨81,31,81,46⟩) .nil)) ⟨81,7,81,47⟩) (.cons (.retN ⟨82,8,82,14⟩) .nil) .nil ⟨81,4,82,14⟩) (.cons (.ifs (.bop .Or (.cons (.cmp (.att (.loc 3 ⟨83,7,83,14⟩) 0 ⟨83,7,83,23⟩) .NotEq (.cst (.str [110,117,109,101,114,105,99]) ⟨83,27,83,36⟩) ⟨83,7,83,36⟩) (.cons (.un .Not (.att (.loc 3 ⟨83,44,83,51⟩) 11 ⟨83,44,83,61⟩) ⟨83,40,83,61⟩) (.cons (.cmp (.loc 4 ⟨83,65,83,70⟩) .NotEq (.cst (.str [100,105,115,112,108,97,121]) ⟨83,74,83,83⟩) ⟨83,65,83,83⟩) .nil))) ⟨83,7,83,83⟩) (.cons (.rais (.call (.glb 17 ⟨84,14,84,23⟩) (.cons (.cst (.str [116,104,101,32,115,105,103,110,39,115,32,112,108,97,99,101,32,105,115,32,116,111,108,100,32,111,102,32,110,117,109,98,101,114,115,32,119,105,116,104,32,97,110,32,83,32,105,110,32,100,105,115,112,108,97,121,32,97,108,111,110,101]) ⟨84,24,84,88⟩) .nil) ⟨84,14,84,89⟩) ⟨84,8,84,89⟩) .nil) .nil ⟨83,4,84,89⟩) .nil)))
noncomputable def b_check_clauses : PSs :=
  (.cons (.ifs (.bop .And (.cons (.loc 7 ⟨86,7,86,19⟩) (.cons (.cmp (.att (.loc 3 ⟨86,24,86,31⟩) 0 ⟨86,24,86,40⟩) .NotIn (.tup (.cons (.cst (.str [97,108,112,104,97,98,101,116,105,99]) ⟨86,49,86,61⟩) (.cons (.cst (.str [97,108,112,104,97,110,117,109,101,114,105,99]) ⟨86,63,86,77⟩) .nil)) ⟨86,48,86,78⟩) ⟨86,24,86,78⟩) .nil)) ⟨86,7,86,78⟩) (.cons (.rais (.call (.glb 17 ⟨87,14,87,23⟩) (.cons (.cst (.str [111,110,108,121,32,108,101,116,116,101,114,115,32,97,110,100,32,115,105,103,110,115,32,97,114,101,32,106,117,115,116,105,102,105,101,100]) ⟨87,24,87,62⟩) .nil) ⟨87,14,87,63⟩) ⟨87,8,87,63⟩) .nil) .nil ⟨86,4,87,63⟩) (.cons (.ifs (.bop .And (.cons (.loc 8 ⟨88,7,88,20⟩) (.cons (.cmp (.att (.loc 3 ⟨88,25,88,32⟩) 0 ⟨88,25,88,41⟩) .NotEq (.cst (.str [101,100,105,116,101,100]) ⟨88,45,88,53⟩) ⟨88,25,88,53⟩) .nil)) ⟨88,7,88,53⟩) (.cons (.rais (.call (.glb 17 ⟨89,14,89,23⟩) (.cons (.cst (.str [111,110,108,121,32,101,100,105,116,101,100,32,110,117,109,98,101,114,115,32,97,114,101,32,98,108,97,110,107,32,119,104,101,110,32,122,101,114,111]) ⟨89,24,89,65⟩) .nil) ⟨89,14,89,66⟩) ⟨89,8,89,66⟩) .nil) .nil ⟨88,4,89,66⟩) (.cons (.ifs (.bop .And (.cons (.loc 8 ⟨90,7,90,20⟩) (.cons (.cmp (.comp (.loc 5 ⟨90,26,90,30⟩) [(5,⟨90,35,90,39⟩),(23,⟨90,41,90,46⟩)] (some ⟨90,35,90,46⟩) (.att (.loc 3 ⟨90,50,90,57⟩) 22 ⟨90,50,90,65⟩) (.cons (.cmp (.loc 5 ⟨90,69,90,73⟩) .Eq (.cst (.str [42]) ⟨90,77,90,80⟩) ⟨90,69,90,80⟩) .nil) [(24,0),(5,0),(23,0)] ⟨90,25,90,81⟩) .NotEq (.lst .nil ⟨90,85,90,87⟩) ⟨90,25,90,87⟩) .nil)) ⟨90,7,90,87⟩) (.cons (.rais (.call (.glb 17 ⟨91,14,91,23⟩) (.cons (.cst (.str [97,115,116,101,114,105,115,107,115,32,97,114,101,32,110,111,116,32,98,108,97,110,107,32,119,104,101,110,32,122,101,114,111]) ⟨91,24,91,59⟩) .nil) ⟨91,14,91,60⟩) ⟨91,8,91,60⟩) .nil) .nil ⟨90,4,91,60⟩) .nil)))
noncomputable def b_shape_of : PSs :=
  (.cons (.exp (.call (.glb 25 ⟨93,4,93,15⟩) (.cons (.loc 3 ⟨93,16,93,23⟩) (.cons (.loc 4 ⟨93,25,93,30⟩) .nil)) ⟨93,4,93,31⟩) ⟨93,4,93,31⟩) (.cons (.exp (.call (.glb 26 ⟨94,4,94,14⟩) (.cons (.loc 3 ⟨94,15,94,22⟩) (.cons (.loc 4 ⟨94,24,94,29⟩) (.cons (.loc 5 ⟨94,31,94,35⟩) (.cons (.loc 6 ⟨94,37,94,48⟩) .nil)))) ⟨94,4,94,49⟩) ⟨94,4,94,49⟩) (.cons (.exp (.call (.glb 27 ⟨95,4,95,17⟩) (.cons (.loc 3 ⟨95,18,95,25⟩) (.cons (.loc 7 ⟨95,27,95,39⟩) (.cons (.loc 8 ⟨95,41,95,54⟩) .nil))) ⟨95,4,95,55⟩) ⟨95,4,95,55⟩) (.cons (.asg 2 ⟨96,4,96,8⟩ (.call (.glb 28 ⟨96,11,96,19⟩) (.cons (.loc 3 ⟨96,20,96,27⟩) (.cons (.loc 4 ⟨96,29,96,34⟩) (.cons (.loc 6 ⟨96,36,96,47⟩) .nil))) ⟨96,11,96,48⟩) ⟨96,4,96,48⟩) (.cons (.ret (.call (.glb 29 ⟨97,11,97,16⟩) (.cons (.att (.loc 3 ⟨97,17,97,24⟩) 0 ⟨97,17,97,33⟩) (.cons (.loc 2 ⟨97,35,97,39⟩) (.cons (.loc 3 ⟨97,41,97,48⟩) (.cons (.loc 4 ⟨97,50,97,55⟩) (.cons (.loc 5 ⟨97,57,97,61⟩) (.cons (.loc 6 ⟨97,63,97,74⟩) (.cons (.loc 7 ⟨97,76,97,88⟩) (.cons (.loc 8 ⟨97,90,97,103⟩) .nil)))))))) ⟨97,11,97,104⟩) ⟨97,4,97,104⟩) .nil)))))
noncomputable def b_group_shape : PSs :=
  (.cons (.ret (.call (.glb 29 ⟨99,11,99,16⟩) (.cons (.cst (.str [103,114,111,117,112]) ⟨99,17,99,24⟩) (.cons (.loc 2 ⟨99,26,99,30⟩) .nil)) ⟨99,11,99,31⟩) ⟨99,4,99,31⟩) .nil)
noncomputable def b_text_shape : PSs :=
  (.cons (.ret (.call (.glb 29 ⟨101,11,101,16⟩) (.cons (.cst (.str [97,108,112,104,97,110,117,109,101,114,105,99]) ⟨101,17,101,31⟩) (.cons (.call (.glb 30 ⟨101,33,101,36⟩) (.cons (.loc 31 ⟨101,37,101,43⟩) .nil) ⟨101,33,101,44⟩) .nil)) ⟨101,11,101,45⟩) ⟨101,4,101,45⟩) .nil)
noncomputable def b_numbered_shape : PSs :=
  (.cons (.asg 32 ⟨103,4,103,9⟩ (.call (.glb 29 ⟨103,12,103,17⟩) (.cons (.loc 0 ⟨103,18,103,26⟩) (.cons (.loc 2 ⟨103,28,103,32⟩) (.cons (.cst .none ⟨103,34,103,38⟩) (.cons (.loc 4 ⟨103,40,103,45⟩) .nil)))) ⟨103,12,103,46⟩) ⟨103,4,103,46⟩) (.cons (.asgA (.loc 32 ⟨104,4,104,9⟩) 9 ⟨104,4,104,16⟩ (.loc 9 ⟨104,19,104,25⟩) ⟨104,4,104,25⟩) (.cons (.asgA (.loc 32 ⟨105,4,105,9⟩) 10 ⟨105,4,105,15⟩ (.loc 10 ⟨105,18,105,23⟩) ⟨105,4,105,23⟩) (.cons (.asgA (.loc 32 ⟨106,4,106,9⟩) 11 ⟨106,4,106,19⟩ (.loc 11 ⟨106,22,106,31⟩) ⟨106,4,106,31⟩) (.cons (.ret (.loc 32 ⟨107,11,107,16⟩) ⟨107,4,107,16⟩) .nil)))))
noncomputable def b_figure_count : PSs :=
  (.cons (.asgT [(23,⟨109,4,109,9⟩),(33,⟨109,11,109,15⟩)] ⟨109,4,109,15⟩ (.tup (.cons (.cst (.int 1) ⟨109,19,109,20⟩) (.cons (.bin .FloorDiv (.loc 13 ⟨109,22,109,28⟩) (.cst (.int 10) ⟨109,32,109,34⟩) ⟨109,22,109,34⟩) .nil)) ⟨109,18,109,35⟩) ⟨109,4,109,35⟩) (.cons (.whl (.cmp (.loc 33 ⟨110,10,110,14⟩) .Gt (.cst (.int 0) ⟨110,17,110,18⟩) ⟨110,10,110,18⟩) (.cons (.asg 23 ⟨111,8,111,13⟩ (.bin .Add (.loc 23 ⟨111,16,111,21⟩) (.cst (.int 1) ⟨111,24,111,25⟩) ⟨111,16,111,25⟩) ⟨111,8,111,25⟩) (.cons (.asg 33 ⟨112,8,112,12⟩ (.bin .FloorDiv (.loc 33 ⟨112,15,112,19⟩) (.cst (.int 10) ⟨112,23,112,25⟩) ⟨112,15,112,25⟩) ⟨112,8,112,25⟩) .nil)) ⟨110,4,112,25⟩) (.cons (.ret (.loc 23 ⟨113,11,113,16⟩) ⟨113,4,113,16⟩) .nil)))
noncomputable def b_number_shape : PSs :=
  (.cons (.asgT [(34,⟨115,4,115,9⟩),(10,⟨115,11,115,16⟩)] ⟨115,4,115,16⟩ (.loc 13 ⟨115,19,115,25⟩) ⟨115,4,115,25⟩) (.cons (.asg 9 ⟨116,4,116,10⟩ (.call (.glb 35 ⟨116,13,116,16⟩) (.cons (.call (.glb 36 ⟨116,17,116,29⟩) (.cons (.call (.glb 37 ⟨116,30,116,33⟩) (.cons (.loc 34 ⟨116,34,116,39⟩) .nil) ⟨116,30,116,40⟩) .nil) ⟨116,17,116,41⟩) (.cons (.loc 10 ⟨116,43,116,48⟩) .nil)) ⟨116,13,116,49⟩) ⟨116,4,116,49⟩) (.cons (.ret (.call (.glb 38 ⟨117,11,117,25⟩) (.cons (.cst (.str [110,117,109,101,114,105,99]) ⟨117,26,117,35⟩) (.cons (.loc 9 ⟨117,37,117,43⟩) (.cons (.cst (.str [100,105,115,112,108,97,121]) ⟨117,45,117,54⟩) (.cons (.loc 9 ⟨117,56,117,62⟩) (.cons (.loc 10 ⟨117,64,117,69⟩) (.cons (.cmp (.loc 34 ⟨117,71,117,76⟩) .Lt (.cst (.int 0) ⟨117,79,117,80⟩) ⟨117,71,117,80⟩) .nil)))))) ⟨117,11,117,81⟩) ⟨117,4,117,81⟩) .nil)))
noncomputable def b_index_shape : PSs :=
  (.cons (.ret (.call (.glb 38 ⟨119,11,119,25⟩) (.cons (.cst (.str [105,110,100,101,120]) ⟨119,26,119,33⟩) (.cons (.glb 39 ⟨119,35,119,45⟩) (.cons (.cst (.str [105,110,100,101,120]) ⟨119,47,119,54⟩) (.cons (.glb 40 ⟨119,56,119,68⟩) (.cons (.cst (.int 0) ⟨119,70,119,71⟩) (.cons (.cst (.bool true) ⟨119,73,119,77⟩) .nil)))))) ⟨119,11,119,78⟩) ⟨119,4,119,78⟩) .nil)
noncomputable def b_unsigned_shape : PSs :=
  (.cons (.ret (.call (.glb 38 ⟨121,11,121,25⟩) (.cons (.cst (.str [110,117,109,101,114,105,99]) ⟨121,26,121,35⟩) (.cons (.att (.loc 15 ⟨121,37,121,42⟩) 9 ⟨121,37,121,49⟩) (.cons (.cst (.str [100,105,115,112,108,97,121]) ⟨121,51,121,60⟩) (.cons (.att (.loc 15 ⟨121,62,121,67⟩) 9 ⟨121,62,121,74⟩) (.cons (.att (.loc 15 ⟨121,76,121,81⟩) 10 ⟨121,76,121,87⟩) (.cons (.cst (.bool false) ⟨121,89,121,94⟩) .nil)))))) ⟨121,11,121,95⟩) ⟨121,4,121,95⟩) .nil)
noncomputable def b_Picture_init : PSs :=
  (.cons (.asgA (.loc 1 ⟨135,8,135,12⟩) 41 ⟨135,8,135,17⟩ (.loc 41 ⟨135,20,135,24⟩) ⟨135,8,135,24⟩) (.cons (.asgA (.loc 1 ⟨136,8,136,12⟩) 22 ⟨136,8,136,20⟩ (.loc 22 ⟨136,23,136,30⟩) ⟨136,8,136,30⟩) (.cons (.asgA (.loc 1 ⟨137,8,137,12⟩) 0 ⟨137,8,137,21⟩ (.loc 0 ⟨137,24,137,32⟩) ⟨137,8,137,32⟩) (.cons (.asgA (.loc 1 ⟨138,8,138,12⟩) 9 ⟨138,8,138,19⟩ (.loc 9 ⟨138,22,138,28⟩) ⟨138,8,138,28⟩) (.cons (.asgA (.loc 1 ⟨139,8,139,12⟩) 10 ⟨139,8,139,18⟩ (.loc 10 ⟨139,21,139,26⟩) ⟨139,8,139,26⟩) (.cons (.asgA (.loc 1 ⟨140,8,140,12⟩) 11 ⟨140,8,140,22⟩ (.loc 11 ⟨140,25,140,34⟩) ⟨140,8,140,34⟩) (.cons (.asgA (.loc 1 ⟨141,8,141,12⟩) 2 ⟨141,8,141,17⟩ (.loc 2 ⟨141,20,141,24⟩) ⟨141,8,141,24⟩) .nil)))))))
noncomputable def b_Picture_told : PSs :=
  (.cons (.ret (.tup (.cons (.att (.loc 1 ⟨144,16,144,20⟩) 0 ⟨144,16,144,29⟩) (.cons (.call (.glb 42 ⟨144,31,144,36⟩) (.cons (.att (.loc 1 ⟨144,37,144,41⟩) 22 ⟨144,37,144,49⟩) .nil) ⟨144,31,144,50⟩) .nil)) ⟨144,15,144,51⟩) ⟨144,8,144,51⟩) .nil)
noncomputable def b_Sign_init : PSs :=
  (.cons (.asgA (.loc 1 ⟨151,8,151,12⟩) 5 ⟨151,8,151,17⟩ (.loc 5 ⟨151,20,151,24⟩) ⟨151,8,151,24⟩) (.cons (.asgA (.loc 1 ⟨152,8,152,12⟩) 23 ⟨152,8,152,18⟩ (.loc 23 ⟨152,21,152,26⟩) ⟨152,8,152,26⟩) (.cons (.asgA (.loc 1 ⟨153,8,153,12⟩) 43 ⟨153,8,153,15⟩ (.loc 43 ⟨153,18,153,20⟩) ⟨153,8,153,20⟩) .nil)))
noncomputable def b_sign_at : PSs :=
  (.cons (.ifs (.cmp (.sl2 (.loc 41 ⟨158,7,158,11⟩) (.loc 43 ⟨158,12,158,14⟩) (.bin .Add (.loc 43 ⟨158,15,158,17⟩) (.cst (.int 2) ⟨158,20,158,21⟩) ⟨158,15,158,21⟩) ⟨158,12,158,21⟩ ⟨158,7,158,22⟩) .In (.tup (.cons (.cst (.str [67,82]) ⟨158,27,158,31⟩) (.cons (.cst (.str [68,66]) ⟨158,33,158,37⟩) .nil)) ⟨158,26,158,38⟩) ⟨158,7,158,38⟩) (.cons (.ret (.sl2 (.loc 41 ⟨159,15,159,19⟩) (.loc 43 ⟨159,20,159,22⟩) (.bin .Add (.loc 43 ⟨159,23,159,25⟩) (.cst (.int 2) ⟨159,28,159,29⟩) ⟨159,23,159,29⟩) ⟨159,20,159,29⟩ ⟨159,15,159,30⟩) ⟨159,8,159,30⟩) .nil) .nil ⟨158,4,159,30⟩) (.cons (.ifs (.cmp (.sub (.loc 41 ⟨160,7,160,11⟩) (.loc 43 ⟨160,12,160,14⟩) ⟨160,7,160,15⟩) .NotIn (.glb 44 ⟨160,23,160,28⟩) ⟨160,7,160,28⟩) (.cons (.rais (.call (.glb 45 ⟨161,14,161,26⟩) (.cons (.cst (.str [110,111,32,115,105,103,110,32,111,102,32,97,32,112,105,99,116,117,114,101]) ⟨161,27,161,49⟩) (.cons (.tup (.cons (.cst (.int 0) ⟨161,52,161,53⟩) (.cons (.loc 43 ⟨161,55,161,57⟩) .nil)) ⟨161,51,161,58⟩) .nil)) ⟨161,14,161,59⟩) ⟨161,8,161,59⟩) .nil) .nil ⟨160,4,161,59⟩) (.cons (.ret (.sub (.loc 41 ⟨162,11,162,15⟩) (.loc 43 ⟨162,16,162,18⟩) ⟨162,11,162,19⟩) ⟨162,4,162,19⟩) .nil)))
noncomputable def b_count_at : PSs :=
  (.cons (.ifs (.cmp (.sl2 (.loc 41 ⟨164,7,164,11⟩) (.loc 43 ⟨164,12,164,14⟩) (.bin .Add (.loc 43 ⟨164,15,164,17⟩) (.cst (.int 1) ⟨164,20,164,21⟩) ⟨164,15,164,21⟩) ⟨164,12,164,21⟩ ⟨164,7,164,22⟩) .NotEq (.cst (.str [40]) ⟨164,26,164,29⟩) ⟨164,7,164,29⟩) (.cons (.ret (.tup (.cons (.cst (.int 1) ⟨165,16,165,17⟩) (.cons (.loc 43 ⟨165,19,165,21⟩) .nil)) ⟨165,15,165,22⟩) ⟨165,8,165,22⟩) .nil) .nil ⟨164,4,165,22⟩) (.cons (.asg 47 ⟨166,4,166,7⟩ (.mcall (.loc 41 ⟨166,10,166,14⟩) 46 ⟨166,10,166,19⟩ (.cons (.cst (.str [41]) ⟨166,20,166,23⟩) (.cons (.loc 43 ⟨166,25,166,27⟩) .nil)) ⟨166,10,166,28⟩) ⟨166,4,166,28⟩) (.cons (.asg 48 ⟨167,4,167,11⟩ (.sl2 (.loc 41 ⟨167,14,167,18⟩) (.bin .Add (.loc 43 ⟨167,19,167,21⟩) (.cst (.int 1) ⟨167,24,167,25⟩) ⟨167,19,167,25⟩) (.call (.glb 35 ⟨167,26,167,29⟩) (.cons (.loc 47 ⟨167,30,167,33⟩) (.cons (.loc 43 ⟨167,35,167,37⟩) .nil)) ⟨167,26,167,38⟩) ⟨167,19,167,38⟩ ⟨167,14,167,39⟩) ⟨167,4,167,39⟩) (.cons (.ifs (.bop .Or (.cons (.un .Not (.cmp2 (.cst (.int 1) ⟨168,11,168,12⟩) .LtE (.call (.glb 30 ⟨168,16,168,19⟩) (.cons (.loc 48 ⟨168,20,168,27⟩) .nil) ⟨168,16,168,28⟩) .LtE (.cst (.int 4) ⟨168,32,168,33⟩) ⟨168,11,168,33⟩) ⟨168,7,168,33⟩) (.cons (.cmp (.comp (.loc 5 ⟨168,38,168,42⟩) [(5,⟨168,47,168,51⟩)] none (.loc 48 ⟨168,55,168,62⟩) (.cons (.cmp (.loc 5 ⟨168,66,168,70⟩) .NotIn (.glb 49 ⟨168,78,168,85⟩) ⟨168,66,168,85⟩) .nil) [(24,0),(5,0),(49,1)] ⟨168,37,168,86⟩) .NotEq (.lst .nil ⟨168,90,168,92⟩) ⟨168,37,168,92⟩) (.cons (.cmp (.call (.glb 50 ⟨168,96,168,99⟩) (.cons (.loc 48 ⟨168,100,168,107⟩) .nil) ⟨168,96,168,108⟩) .Eq (.cst (.int 0) ⟨168,112,168,113⟩) ⟨168,96,168,113⟩) .nil))) ⟨168,7,168,113⟩) (.cons (.rais (.call (.glb 45 ⟨169,14,169,26⟩) (.cons (.cst (.str [110,111,32,99,111,117,110,116]) ⟨169,27,169,37⟩) (.cons (.tup (.cons (.cst (.int 0) ⟨169,40,169,41⟩) (.cons (.loc 43 ⟨169,43,169,45⟩) .nil)) ⟨169,39,169,46⟩) .nil)) ⟨169,14,169,47⟩) ⟨169,8,169,47⟩) .nil) .nil ⟨168,4,169,47⟩) (.cons (.ret (.tup (.cons (.call (.glb 50 ⟨170,12,170,15⟩) (.cons (.loc 48 ⟨170,16,170,23⟩) .nil) ⟨170,12,170,24⟩) (.cons (.bin .Add (.loc 47 ⟨170,26,170,29⟩) (.cst (.int 1) ⟨170,32,170,33⟩) ⟨170,26,170,33⟩) .nil)) ⟨170,11,170,34⟩) ⟨170,4,170,34⟩) .nil)))))
noncomputable def b_signs_of : PSs :=
  (.cons (.asgT [(32,⟨172,4,172,9⟩),(43,⟨172,11,172,13⟩)] ⟨172,4,172,13⟩ (.tup (.cons (.lst .nil ⟨172,17,172,19⟩) (.cons (.cst (.int 0) ⟨172,21,172,22⟩) .nil)) ⟨172,16,172,23⟩) ⟨172,4,172,23⟩) (.cons (.whl (.cmp (.loc 43 ⟨173,10,173,12⟩) .Lt (.call (.glb 30 ⟨173,15,173,18⟩) (.cons (.loc 41 ⟨173,19,173,23⟩) .nil) ⟨173,15,173,24⟩) ⟨173,10,173,24⟩) (.cons (.asg 5 ⟨174,8,174,12⟩ (.call (.glb 51 ⟨174,15,174,22⟩) (.cons (.loc 41 ⟨174,23,174,27⟩) (.cons (.loc 43 ⟨174,29,174,31⟩) .nil)) ⟨174,15,174,32⟩) ⟨174,8,174,32⟩) (.cons (.asgT [(23,⟨175,8,175,13⟩),(47,⟨175,15,175,18⟩)] ⟨175,8,175,18⟩ (.call (.glb 52 ⟨175,21,175,29⟩) (.cons (.loc 41 ⟨175,30,175,34⟩) (.cons (.bin .Add (.loc 43 ⟨175,36,175,38⟩) (.call (.glb 30 ⟨175,41,175,44⟩) (.cons (.loc 5 ⟨175,45,175,49⟩) .nil) ⟨175,41,175,50⟩) ⟨175,36,175,50⟩) .nil)) ⟨175,21,175,51⟩) ⟨175,8,175,51⟩) (.cons (.ifs (.bop .And (.cons (.cmp (.loc 47 ⟨176,11,176,14⟩) .Gt (.bin .Add (.loc 43 ⟨176,17,176,19⟩) (.call (.glb 30 ⟨176,22,176,25⟩) (.cons (.loc 5 ⟨176,26,176,30⟩) .nil) ⟨176,22,176,31⟩) ⟨176,17,176,31⟩) ⟨176,11,176,31⟩) (.cons (.cmp (.loc 5 ⟨176,36,176,40⟩) .In (.mcall (.glb 53 ⟨176,44,176,49⟩) 21 ⟨176,44,176,55⟩ (.cons (.cst (.str [32]) ⟨176,56,176,59⟩) .nil) ⟨176,44,176,60⟩) ⟨176,36,176,60⟩) .nil)) ⟨176,11,176,60⟩) (.cons (.rais (.call (.glb 45 ⟨177,18,177,30⟩) (.cons (.cst (.str [97,32,115,105,103,110,32,116,104,97,116,32,104,97,115,32,110,111,32,99,111,117,110,116]) ⟨177,31,177,57⟩) (.cons (.tup (.cons (.cst (.int 0) ⟨177,60,177,61⟩) (.cons (.bin .Add (.loc 43 ⟨177,63,177,65⟩) (.call (.glb 30 ⟨177,68,177,71⟩) (.cons (.loc 5 ⟨177,72,177,76⟩) .nil) ⟨177,68,177,77⟩) ⟨177,63,177,77⟩) .nil)) ⟨177,59,177,78⟩) .nil)) ⟨177,18,177,79⟩) ⟨177,12,177,79⟩) .nil) .nil ⟨176,8,177,79⟩) (.cons (.exp (.mcall (.loc 32 ⟨178,8,178,13⟩) 54 ⟨178,8,178,20⟩ (.cons (.call (.glb 55 ⟨178,21,178,25⟩) (.cons (.loc 5 ⟨178,26,178,30⟩) (.cons (.loc 23 ⟨178,32,178,37⟩) (.cons (.loc 43 ⟨178,39,178,41⟩) .nil))) ⟨178,21,178,42⟩) .nil) ⟨178,8,178,43⟩) ⟨178,8,178,43⟩) (.cons (.asg 43 ⟨179,8,179,10⟩ (.loc 47 ⟨179,13,179,16⟩) ⟨179,8,179,16⟩) .nil))))) ⟨173,4,179,16⟩) (.cons (.ret (.loc 32 ⟨180,11,180,16⟩) ⟨180,4,180,16⟩) .nil)))
noncomputable def b_symbols_of : PSs :=
  (.cons (.asg 32 ⟨182,4,182,9⟩ (.lst .nil ⟨182,12,182,14⟩) ⟨182,4,182,14⟩) (.cons (.for_ 57 ⟨183,8,183,11⟩ (.loc 56 ⟨183,15,183,20⟩) (.cons (.ifs (.bop .And (.cons (.cmp (.loc 32 ⟨184,11,184,16⟩) .NotEq (.lst .nil ⟨184,20,184,22⟩) ⟨184,11,184,22⟩) (.cons (.cmp (.sub (.sub (.loc 32 ⟨184,27,184,32⟩) (.un .USub (.cst (.int 1) ⟨184,34,184,35⟩) ⟨184,33,184,35⟩) ⟨184,27,184,36⟩) (.cst (.int 0) ⟨184,37,184,38⟩) ⟨184,27,184,39⟩) .Eq (.att (.loc 57 ⟨184,43,184,46⟩) 5 ⟨184,43,184,51⟩) ⟨184,27,184,51⟩) .nil)) ⟨184,11,184,51⟩) (.cons (.asgS (.loc 32 ⟨185,12,185,17⟩) (.un .USub (.cst (.int 1) ⟨185,19,185,20⟩) ⟨185,18,185,20⟩) ⟨185,12,185,21⟩ (.tup (.cons (.att (.loc 57 ⟨185,25,185,28⟩) 5 ⟨185,25,185,33⟩) (.cons (.bin .Add (.sub (.sub (.loc 32 ⟨185,35,185,40⟩) (.un .USub (.cst (.int 1) ⟨185,42,185,43⟩) ⟨185,41,185,43⟩) ⟨185,35,185,44⟩) (.cst (.int 1) ⟨185,45,185,46⟩) ⟨185,35,185,47⟩) (.att (.loc 57 ⟨185,50,185,53⟩) 23 ⟨185,50,185,59⟩) ⟨185,35,185,59⟩) .nil)) ⟨185,24,185,60⟩) ⟨185,12,185,60⟩) .nil) (.cons (.exp (.mcall (.loc 32 ⟨187,12,187,17⟩) 54 ⟨187,12,187,24⟩ (.cons (.tup (.cons (.att (.loc 57 ⟨187,26,187,29⟩) 5 ⟨187,26,187,34⟩) (.cons (.att (.loc 57 ⟨187,36,187,39⟩) 23 ⟨187,36,187,45⟩) .nil)) ⟨187,25,187,46⟩) .nil) ⟨187,12,187,47⟩) ⟨187,12,187,47⟩) .nil) ⟨184,8,187,47⟩) .nil) ⟨183,4,187,47⟩) (.cons (.ret (.loc 32 ⟨188,11,188,16⟩) ⟨188,4,188,16⟩) .nil)))
noncomputable def b_size_of_symbols : PSs :=
  (.cons (.ret (.call (.glb 58 ⟨190,11,190,14⟩) (.cons (.comp (.bin .Mult (.loc 23 ⟨190,16,190,21⟩) (.call (.glb 30 ⟨190,24,190,27⟩) (.cons (.loc 5 ⟨190,28,190,32⟩) .nil) ⟨190,24,190,33⟩) ⟨190,16,190,33⟩) [(5,⟨190,38,190,42⟩),(23,⟨190,44,190,49⟩)] (some ⟨190,38,190,49⟩) (.loc 22 ⟨190,53,190,60⟩) (.cons (.cmp (.loc 5 ⟨190,64,190,68⟩) .NotIn (.mcall (.glb 59 ⟨190,76,190,88⟩) 21 ⟨190,76,190,94⟩ (.cons (.cst (.str [32]) ⟨190,95,190,98⟩) .nil) ⟨190,76,190,99⟩) ⟨190,64,190,99⟩) .nil) [(24,0),(5,0),(23,0),(59,1),(30,1)] ⟨190,15,190,100⟩) .nil) ⟨190,11,190,101⟩) ⟨190,4,190,101⟩) .nil)
noncomputable def b_Order_init : PSs :=
  (.cons (.asgA (.loc 1 ⟨194,8,194,12⟩) 60 ⟨194,8,194,17⟩ (.cst (.int 0) ⟨194,20,194,21⟩) ⟨194,8,194,21⟩) (.cons (.asgA (.loc 1 ⟨195,8,195,12⟩) 61 ⟨195,8,195,21⟩ (.cst (.bool false) ⟨195,24,195,29⟩) ⟨195,8,195,29⟩) (.cons (.asgA (.loc 1 ⟨196,8,196,12⟩) 62 ⟨196,8,196,18⟩ (.cst (.str []) ⟨196,21,196,23⟩) ⟨196,8,196,23⟩) (.cons (.asgA (.loc 1 ⟨197,8,197,12⟩) 63 ⟨197,8,197,17⟩ (.cst (.int 0) ⟨197,20,197,21⟩) ⟨197,8,197,21⟩) (.cons (.asgA (.loc 1 ⟨198,8,198,12⟩) 64 ⟨198,8,198,18⟩ (.cst (.int 0) ⟨198,21,198,22⟩) ⟨198,8,198,22⟩) (.cons (.asgA (.loc 1 ⟨199,8,199,12⟩) 65 ⟨199,8,199,18⟩ (.cst (.int 0) ⟨199,21,199,22⟩) ⟨199,8,199,22⟩) (.cons (.asgA (.loc 1 ⟨200,8,200,12⟩) 66 ⟨200,8,200,17⟩ (.cst (.str []) ⟨200,20,200,22⟩) ⟨200,8,200,22⟩) (.cons (.asgA (.loc 1 ⟨201,8,201,12⟩) 67 ⟨201,8,201,18⟩ (.cst (.int 0) ⟨201,21,201,22⟩) ⟨201,8,201,22⟩) (.cons (.asgA (.loc 1 ⟨202,8,202,12⟩) 68 ⟨202,8,202,19⟩ (.cst (.int 0) ⟨202,22,202,23⟩) ⟨202,8,202,23⟩) (.cons (.asgA (.loc 1 ⟨203,8,203,12⟩) 69 ⟨203,8,203,19⟩ (.cst (.int 0) ⟨203,22,203,23⟩) ⟨203,8,203,23⟩) (.cons (.asgA (.loc 1 ⟨204,8,204,12⟩) 70 ⟨204,8,204,20⟩ (.cst (.bool false) ⟨204,23,204,28⟩) ⟨204,8,204,28⟩) (.cons (.asgA (.loc 1 ⟨205,8,205,12⟩) 5 ⟨205,8,205,17⟩ (.cst (.str []) ⟨205,20,205,22⟩) ⟨205,8,205,22⟩) (.cons (.asgA (.loc 1 ⟨206,8,206,12⟩) 71 ⟨206,8,206,18⟩ (.cst (.str []) ⟨206,21,206,23⟩) ⟨206,8,206,23⟩) (.cons (.asgA (.loc 1 ⟨207,8,207,12⟩) 72 ⟨207,8,207,17⟩ (.cst (.str []) ⟨207,20,207,22⟩) ⟨207,8,207,22⟩) (.cons (.asgA (.loc 1 ⟨208,8,208,12⟩) 73 ⟨208,8,208,20⟩ (.cst (.bool false) ⟨208,23,208,28⟩) ⟨208,8,208,28⟩) (.cons (.asgA (.loc 1 ⟨209,8,209,12⟩) 74 ⟨209,8,209,24⟩ (.cst (.bool false) ⟨209,27,209,32⟩) ⟨209,8,209,32⟩) .nil))))))))))))))))
noncomputable def b_Order_digits : PSs :=
  (.cons (.ret (.bin .Add (.bin .Add (.att (.loc 1 ⟨212,15,212,19⟩) 65 ⟨212,15,212,25⟩) (.att (.loc 1 ⟨212,28,212,32⟩) 67 ⟨212,28,212,38⟩) ⟨212,15,212,38⟩) (.att (.loc 1 ⟨212,41,212,45⟩) 68 ⟨212,41,212,52⟩) ⟨212,15,212,52⟩) ⟨212,8,212,52⟩) .nil)
noncomputable def b_Order_add_behind : PSs :=
  (.cons (.ifs (.cmp (.att (.loc 1 ⟨215,11,215,15⟩) 62 ⟨215,11,215,21⟩) .NotEq (.cst (.str []) ⟨215,25,215,27⟩) ⟨215,11,215,27⟩) (.cons (.asgA (.loc 1 ⟨216,12,216,16⟩) 69 ⟨216,12,216,23⟩ (.bin .Add (.att (.loc 1 ⟨216,26,216,30⟩) 69 ⟨216,26,216,37⟩) (.loc 23 ⟨216,40,216,45⟩) ⟨216,26,216,45⟩) ⟨216,12,216,45⟩) (.cons (.asgA (.loc 1 ⟨217,12,217,16⟩) 70 ⟨217,12,217,24⟩ (.bop .Or (.cons (.att (.loc 1 ⟨217,27,217,31⟩) 70 ⟨217,27,217,39⟩) (.cons (.loc 75 ⟨217,43,217,51⟩) .nil)) ⟨217,27,217,51⟩) ⟨217,12,217,51⟩) .nil)) .nil ⟨215,8,217,51⟩) .nil)
noncomputable def b_Order_take_nine : PSs :=
  (.cons (.ifs (.bop .Or (.cons (.cmp (.att (.loc 1 ⟨220,11,220,15⟩) 64 ⟨220,11,220,21⟩) .Gt (.cst (.int 0) ⟨220,24,220,25⟩) ⟨220,11,220,25⟩) (.cons (.att (.loc 1 ⟨220,29,220,33⟩) 70 ⟨220,29,220,41⟩) .nil)) ⟨220,11,220,41⟩) (.cons (.rais (.mcall (.loc 57 ⟨221,18,221,21⟩) 76 ⟨221,18,221,27⟩ .nil ⟨221,18,221,29⟩) ⟨221,12,221,29⟩) .nil) .nil ⟨220,8,221,29⟩) (.cons (.asgA (.loc 1 ⟨222,8,222,12⟩) 65 ⟨222,8,222,18⟩ (.bin .Add (.att (.loc 1 ⟨222,21,222,25⟩) 65 ⟨222,21,222,31⟩) (.att (.loc 57 ⟨222,34,222,37⟩) 23 ⟨222,34,222,43⟩) ⟨222,21,222,43⟩) ⟨222,8,222,43⟩) (.cons (.exp (.mcall (.loc 1 ⟨223,8,223,12⟩) 77 ⟨223,8,223,23⟩ (.cons (.att (.loc 57 ⟨223,24,223,27⟩) 23 ⟨223,24,223,33⟩) (.cons (.cst (.bool false) ⟨223,35,223,40⟩) .nil)) ⟨223,8,223,41⟩) ⟨223,8,223,41⟩) .nil)))
noncomputable def b_Order_take_zero : PSs :=
  (.cons (.ifs (.bop .Or (.cons (.cmp (.att (.loc 1 ⟨226,11,226,15⟩) 64 ⟨226,11,226,21⟩) .Gt (.cst (.int 0) ⟨226,24,226,25⟩) ⟨226,11,226,25⟩) (.cons (.cmp (.att (.loc 1 ⟨226,29,226,33⟩) 65 ⟨226,29,226,39⟩) .Gt (.cst (.int 0) ⟨226,42,226,43⟩) ⟨226,29,226,43⟩) (.cons (.cmp (.att (.loc 1 ⟨226,47,226,51⟩) 68 ⟨226,47,226,58⟩) .Gt (.cst (.int 0) ⟨226,61,226,62⟩) ⟨226,47,226,62⟩) (.cons (.cmp (.att (.loc 1 ⟨226,67,226,71⟩) 66 ⟨226,67,226,76⟩) .NotIn (.tup (.cons (.cst (.str []) ⟨226,85,226,87⟩) (.cons (.att (.loc 57 ⟨226,89,226,92⟩) 5 ⟨226,89,226,97⟩) .nil)) ⟨226,84,226,98⟩) ⟨226,67,226,98⟩) .nil)))) ⟨226,11,226,99⟩) (.cons (.rais (.mcall (.loc 57 ⟨227,18,227,21⟩) 76 ⟨227,18,227,27⟩ .nil ⟨227,18,227,29⟩) ⟨227,12,227,29⟩) .nil) .nil ⟨226,8,227,29⟩) (.cons (.asgA (.loc 1 ⟨228,8,228,12⟩) 66 ⟨228,8,228,17⟩ (.att (.loc 57 ⟨228,20,228,23⟩) 5 ⟨228,20,228,28⟩) ⟨228,8,228,28⟩) (.cons (.asgA (.loc 1 ⟨229,8,229,12⟩) 67 ⟨229,8,229,18⟩ (.bin .Add (.att (.loc 1 ⟨229,21,229,25⟩) 67 ⟨229,21,229,31⟩) (.att (.loc 57 ⟨229,34,229,37⟩) 23 ⟨229,34,229,43⟩) ⟨229,21,229,43⟩) ⟨229,8,229,43⟩) (.cons (.exp (.mcall (.loc 1 ⟨230,8,230,12⟩) 77 ⟨230,8,230,23⟩ (.cons (.att (.loc 57 ⟨230,24,230,27⟩) 23 ⟨230,24,230,33⟩) (.cons (.cst (.bool true) ⟨230,35,230,39⟩) .nil)) ⟨230,8,230,40⟩) ⟨230,8,230,40⟩) .nil))))
noncomputable def b_Order_take_point : PSs :=
  (.cons (.ifs (.bop .Or (.cons (.cmp (.att (.loc 1 ⟨233,11,233,15⟩) 62 ⟨233,11,233,21⟩) .NotEq (.cst (.str []) ⟨233,25,233,27⟩) ⟨233,11,233,27⟩) (.cons (.cmp (.att (.loc 1 ⟨233,31,233,35⟩) 63 ⟨233,31,233,40⟩) .Gt (.cst (.int 0) ⟨233,43,233,44⟩) ⟨233,31,233,44⟩) (.cons (.bop .And (.cons (.cmp (.att (.loc 57 ⟨233,49,233,52⟩) 5 ⟨233,49,233,57⟩) .Eq (.cst (.str [46]) ⟨233,61,233,64⟩) ⟨233,49,233,64⟩) (.cons (.cmp (.att (.loc 1 ⟨233,69,233,73⟩) 64 ⟨233,69,233,79⟩) .Gt (.cst (.int 0) ⟨233,82,233,83⟩) ⟨233,69,233,83⟩) .nil)) ⟨233,49,233,83⟩) .nil))) ⟨233,11,233,84⟩) (.cons (.rais (.mcall (.loc 57 ⟨234,18,234,21⟩) 76 ⟨234,18,234,27⟩ .nil ⟨234,18,234,29⟩) ⟨234,12,234,29⟩) .nil) .nil ⟨233,8,234,29⟩) (.cons (.asgA (.loc 1 ⟨235,8,235,12⟩) 62 ⟨235,8,235,18⟩ (.att (.loc 57 ⟨235,21,235,24⟩) 5 ⟨235,21,235,29⟩) ⟨235,8,235,29⟩) .nil))
noncomputable def b_Order_take_scaling : PSs :=
  (.cons (.ifs (.cmp (.mcall (.loc 1 ⟨238,11,238,15⟩) 9 ⟨238,11,238,22⟩ .nil ⟨238,11,238,24⟩) .Gt (.cst (.int 0) ⟨238,27,238,28⟩) ⟨238,11,238,28⟩) (.cons (.ifs (.bop .Or (.cons (.cmp (.att (.loc 1 ⟨239,15,239,19⟩) 62 ⟨239,15,239,25⟩) .NotEq (.cst (.str []) ⟨239,29,239,31⟩) ⟨239,15,239,31⟩) (.cons (.cmp (.att (.loc 1 ⟨239,35,239,39⟩) 63 ⟨239,35,239,44⟩) .Gt (.cst (.int 0) ⟨239,47,239,48⟩) ⟨239,35,239,48⟩) .nil)) ⟨239,15,239,48⟩) (.cons (.rais (.mcall (.loc 57 ⟨240,22,240,25⟩) 76 ⟨240,22,240,31⟩ .nil ⟨240,22,240,33⟩) ⟨240,16,240,33⟩) .nil) .nil ⟨239,12,240,33⟩) (.cons (.asgA (.loc 1 ⟨241,12,241,16⟩) 64 ⟨241,12,241,22⟩ (.bin .Add (.att (.loc 1 ⟨241,25,241,29⟩) 64 ⟨241,25,241,35⟩) (.att (.loc 57 ⟨241,38,241,41⟩) 23 ⟨241,38,241,47⟩) ⟨241,25,241,47⟩) ⟨241,12,241,47⟩) (.cons (.retN ⟨242,12,242,18⟩) .nil))) .nil ⟨238,8,242,18⟩) (.cons (.ifs (.bop .Or (.cons (.cmp (.att (.loc 1 ⟨243,11,243,15⟩) 62 ⟨243,11,243,21⟩) .Eq (.cst (.str [46]) ⟨243,25,243,28⟩) ⟨243,11,243,28⟩) (.cons (.att (.loc 1 ⟨243,32,243,36⟩) 74 ⟨243,32,243,48⟩) .nil)) ⟨243,11,243,48⟩) (.cons (.rais (.mcall (.loc 57 ⟨244,18,244,21⟩) 76 ⟨244,18,244,27⟩ .nil ⟨244,18,244,29⟩) ⟨244,12,244,29⟩) .nil) .nil ⟨243,8,244,29⟩) (.cons (.asgA (.loc 1 ⟨245,8,245,12⟩) 63 ⟨245,8,245,17⟩ (.bin .Add (.att (.loc 1 ⟨245,20,245,24⟩) 63 ⟨245,20,245,29⟩) (.att (.loc 57 ⟨245,32,245,35⟩) 23 ⟨245,32,245,41⟩) ⟨245,20,245,41⟩) ⟨245,8,245,41⟩) .nil)))
noncomputable def b_Order_take_inserted : PSs :=
  (.cons (.ifs (.cmp (.att (.loc 1 ⟨248,11,248,15⟩) 64 ⟨248,11,248,21⟩) .Gt (.cst (.int 0) ⟨248,24,248,25⟩) ⟨248,11,248,25⟩) (.cons (.rais (.mcall (.loc 57 ⟨249,18,249,21⟩) 76 ⟨249,18,249,27⟩ .nil ⟨249,18,249,29⟩) ⟨249,12,249,29⟩) .nil) .nil ⟨248,8,249,29⟩) (.cons (.asgA (.loc 1 ⟨250,8,250,12⟩) 74 ⟨250,8,250,24⟩ (.cst (.bool true) ⟨250,27,250,31⟩) ⟨250,8,250,31⟩) .nil))
noncomputable def b_Order_float_on : PSs :=
  (.cons (.asgA (.loc 1 ⟨253,8,253,12⟩) 68 ⟨253,8,253,19⟩ (.bin .Add (.att (.loc 1 ⟨253,22,253,26⟩) 68 ⟨253,22,253,33⟩) (.loc 23 ⟨253,36,253,41⟩) ⟨253,22,253,41⟩) ⟨253,8,253,41⟩) (.cons (.exp (.mcall (.loc 1 ⟨254,8,254,12⟩) 77 ⟨254,8,254,23⟩ (.cons (.loc 23 ⟨254,24,254,29⟩) (.cons (.cst (.bool true) ⟨254,31,254,35⟩) .nil)) ⟨254,8,254,36⟩) ⟨254,8,254,36⟩) .nil))
noncomputable def b_Order_may_float : PSs :=
  (.cons (.ret (.bop .And (.cons (.cmp (.att (.loc 1 ⟨257,15,257,19⟩) 65 ⟨257,15,257,25⟩) .Eq (.cst (.int 0) ⟨257,29,257,30⟩) ⟨257,15,257,30⟩) (.cons (.cmp (.att (.loc 1 ⟨257,35,257,39⟩) 67 ⟨257,35,257,45⟩) .Eq (.cst (.int 0) ⟨257,49,257,50⟩) ⟨257,35,257,50⟩) (.cons (.cmp (.att (.loc 1 ⟨257,56,257,60⟩) 63 ⟨257,56,257,65⟩) .Eq (.cst (.int 0) ⟨257,69,257,70⟩) ⟨257,56,257,70⟩) (.cons (.cmp (.att (.loc 1 ⟨257,77,257,81⟩) 64 ⟨257,77,257,87⟩) .Eq (.cst (.int 0) ⟨257,91,257,92⟩) ⟨257,77,257,92⟩) .nil)))) ⟨257,15,257,93⟩) ⟨257,8,257,93⟩) .nil)
noncomputable def b_Order_take_sign : PSs :=
  (.cons (.ifs (.cmp (.att (.loc 1 ⟨260,11,260,15⟩) 60 ⟨260,11,260,20⟩) .Eq (.cst (.int 0) ⟨260,24,260,25⟩) ⟨260,11,260,25⟩) (.cons (.asgA (.loc 1 ⟨261,12,261,16⟩) 5 ⟨261,12,261,21⟩ (.att (.loc 57 ⟨261,24,261,27⟩) 5 ⟨261,24,261,32⟩) ⟨261,12,261,32⟩) (.cons (.exp (.mcall (.loc 1 ⟨262,12,262,16⟩) 78 ⟨262,12,262,25⟩ (.cons (.loc 57 ⟨262,26,262,29⟩) (.cons (.bin .Sub (.att (.loc 57 ⟨262,31,262,34⟩) 23 ⟨262,31,262,40⟩) (.cst (.int 1) ⟨262,43,262,44⟩) ⟨262,31,262,44⟩) .nil)) ⟨262,12,262,45⟩) ⟨262,12,262,45⟩) .nil)) (.cons (.ifs (.bop .And (.cons (.cmp (.att (.loc 1 ⟨263,13,263,17⟩) 5 ⟨263,13,263,22⟩) .Eq (.att (.loc 57 ⟨263,26,263,29⟩) 5 ⟨263,26,263,34⟩) ⟨263,13,263,34⟩) (.cons (.cmp (.att (.loc 1 ⟨263,39,263,43⟩) 71 ⟨263,39,263,49⟩) .Eq (.cst (.str []) ⟨263,53,263,55⟩) ⟨263,39,263,55⟩) (.cons (.mcall (.loc 1 ⟨263,60,263,64⟩) 79 ⟨263,60,263,74⟩ .nil ⟨263,60,263,76⟩) .nil))) ⟨263,13,263,76⟩) (.cons (.exp (.mcall (.loc 1 ⟨264,12,264,16⟩) 78 ⟨264,12,264,25⟩ (.cons (.loc 57 ⟨264,26,264,29⟩) (.cons (.att (.loc 57 ⟨264,31,264,34⟩) 23 ⟨264,31,264,40⟩) .nil)) ⟨264,12,264,41⟩) ⟨264,12,264,41⟩) .nil) (.cons (.exp (.mcall (.loc 1 ⟨266,12,266,16⟩) 80 ⟨266,12,266,25⟩ (.cons (.loc 57 ⟨266,26,266,29⟩) .nil) ⟨266,12,266,30⟩) ⟨266,12,266,30⟩) .nil) ⟨263,8,266,30⟩) .nil) ⟨260,8,266,30⟩) .nil)
noncomputable def b_Order_take_money : PSs :=
  (.cons (.ifs (.cmp (.att (.loc 1 ⟨269,11,269,15⟩) 71 ⟨269,11,269,21⟩) .Eq (.cst (.str []) ⟨269,25,269,27⟩) ⟨269,11,269,27⟩) (.cons (.ifs (.bop .Or (.cons (.cmp (.att (.loc 1 ⟨270,15,270,19⟩) 60 ⟨270,15,270,24⟩) .Gt (.cst (.int 1) ⟨270,27,270,28⟩) ⟨270,15,270,28⟩) (.cons (.bop .And (.cons (.cmp (.att (.loc 1 ⟨270,33,270,37⟩) 60 ⟨270,33,270,42⟩) .Eq (.cst (.int 1) ⟨270,46,270,47⟩) ⟨270,33,270,47⟩) (.cons (.bop .Or (.cons (.cmp (.att (.loc 1 ⟨270,53,270,57⟩) 5 ⟨270,53,270,62⟩) .Eq (.cst (.str []) ⟨270,66,270,68⟩) ⟨270,53,270,68⟩) (.cons (.cmp (.att (.loc 1 ⟨270,72,270,76⟩) 68 ⟨270,72,270,83⟩) .Gt (.cst (.int 0) ⟨270,86,270,87⟩) ⟨270,72,270,87⟩) .nil)) ⟨270,53,270,87⟩) .nil)) ⟨270,33,270,88⟩) .nil)) ⟨270,15,270,89⟩) (.cons (.rais (.mcall (.loc 57 ⟨271,22,271,25⟩) 76 ⟨271,22,271,31⟩ .nil ⟨271,22,271,33⟩) ⟨271,16,271,33⟩) .nil) .nil ⟨270,12,271,33⟩) (.cons (.asgA (.loc 1 ⟨272,12,272,16⟩) 71 ⟨272,12,272,22⟩ (.att (.loc 57 ⟨272,25,272,28⟩) 5 ⟨272,25,272,33⟩) ⟨272,12,272,33⟩) (.cons (.exp (.mcall (.loc 1 ⟨273,12,273,16⟩) 78 ⟨273,12,273,25⟩ (.cons (.loc 57 ⟨273,26,273,29⟩) (.cons (.bin .Sub (.att (.loc 57 ⟨273,31,273,34⟩) 23 ⟨273,31,273,40⟩) (.cst (.int 1) ⟨273,43,273,44⟩) ⟨273,31,273,44⟩) .nil)) ⟨273,12,273,45⟩) ⟨273,12,273,45⟩) .nil))) (.cons (.ifs (.mcall (.loc 1 ⟨274,13,274,17⟩) 79 ⟨274,13,274,27⟩ .nil ⟨274,13,274,29⟩) (.cons (.exp (.mcall (.loc 1 ⟨275,12,275,16⟩) 78 ⟨275,12,275,25⟩ (.cons (.loc 57 ⟨275,26,275,29⟩) (.cons (.att (.loc 57 ⟨275,31,275,34⟩) 23 ⟨275,31,275,40⟩) .nil)) ⟨275,12,275,41⟩) ⟨275,12,275,41⟩) .nil) (.cons (.rais (.mcall (.loc 57 ⟨277,18,277,21⟩) 76 ⟨277,18,277,27⟩ .nil ⟨277,18,277,29⟩) ⟨277,12,277,29⟩) .nil) ⟨274,8,277,29⟩) .nil) ⟨269,8,277,29⟩) .nil)
noncomputable def b_Order_take_end : PSs :=
  (.cons (.ifs (.bop .Or (.cons (.cmp (.mcall (.loc 1 ⟨280,11,280,15⟩) 9 ⟨280,11,280,22⟩ .nil ⟨280,11,280,24⟩) .Eq (.cst (.int 0) ⟨280,28,280,29⟩) ⟨280,11,280,29⟩) (.cons (.cmp (.att (.loc 1 ⟨280,33,280,37⟩) 5 ⟨280,33,280,42⟩) .NotEq (.cst (.str []) ⟨280,46,280,48⟩) ⟨280,33,280,48⟩) (.cons (.cmp (.att (.loc 57 ⟨280,52,280,55⟩) 23 ⟨280,52,280,61⟩) .Gt (.cst (.int 1) ⟨280,64,280,65⟩) ⟨280,52,280,65⟩) .nil))) ⟨280,11,280,65⟩) (.cons (.rais (.mcall (.loc 57 ⟨281,18,281,21⟩) 76 ⟨281,18,281,27⟩ .nil ⟨281,18,281,29⟩) ⟨281,12,281,29⟩) .nil) .nil ⟨280,8,281,29⟩) (.cons (.asgA (.loc 1 ⟨282,8,282,12⟩) 5 ⟨282,8,282,17⟩ (.att (.loc 57 ⟨282,20,282,23⟩) 5 ⟨282,20,282,28⟩) ⟨282,8,282,28⟩) (.cons (.asgA (.loc 1 ⟨283,8,283,12⟩) 73 ⟨283,8,283,20⟩ (.cst (.bool true) ⟨283,23,283,27⟩) ⟨283,8,283,27⟩) .nil)))
noncomputable def b_Order_take : PSs :=
  (.cons (.asg 5 ⟨286,8,286,12⟩ (.att (.loc 57 ⟨286,15,286,18⟩) 5 ⟨286,15,286,23⟩) ⟨286,8,286,23⟩) (.cons (.ifs (.bop .Or (.cons (.att (.loc 1 ⟨287,11,287,15⟩) 73 ⟨287,11,287,23⟩) (.cons (.bop .And (.cons (.att (.loc 1 ⟨287,28,287,32⟩) 61 ⟨287,28,287,41⟩) (.cons (.cmp (.loc 5 ⟨287,46,287,50⟩) .NotIn (.tup (.cons (.cst (.str [57]) ⟨287,59,287,62⟩) (.cons (.cst (.str [80]) ⟨287,64,287,67⟩) (.cons (.cst (.str [86]) ⟨287,69,287,72⟩) .nil))) ⟨287,58,287,73⟩) ⟨287,46,287,73⟩) .nil)) ⟨287,28,287,73⟩) (.cons (.bop .And (.cons (.cmp (.loc 5 ⟨287,79,287,83⟩) .Eq (.cst (.str [83]) ⟨287,87,287,90⟩) ⟨287,79,287,90⟩) (.cons (.cmp (.att (.loc 1 ⟨287,95,287,99⟩) 60 ⟨287,95,287,104⟩) .Gt (.cst (.int 0) ⟨287,107,287,108⟩) ⟨287,95,287,108⟩) .nil)) ⟨287,79,287,108⟩) .nil))) ⟨287,11,287,109⟩) (.cons (.rais (.mcall (.loc 57 ⟨288,18,288,21⟩) 76 ⟨288,18,288,27⟩ .nil ⟨288,18,288,29⟩) ⟨288,12,288,29⟩) .nil) .nil ⟨287,8,288,29⟩) (.cons (.ifs (.cmp (.loc 5 ⟨289,11,289,15⟩) .Eq (.cst (.str [83]) ⟨289,19,289,22⟩) ⟨289,11,289,22⟩) (.cons (.asgA (.loc 1 ⟨290,12,290,16⟩) 61 ⟨290,12,290,25⟩ (.cst (.bool true) ⟨290,28,290,32⟩) ⟨290,12,290,32⟩) .nil) (.cons (.ifs (.cmp (.loc 5 ⟨291,13,291,17⟩) .Eq (.cst (.str [57]) ⟨291,21,291,24⟩) ⟨291,13,291,24⟩) (.cons (.exp (.mcall (.loc 1 ⟨292,12,292,16⟩) 81 ⟨292,12,292,26⟩ (.cons (.loc 57 ⟨292,27,292,30⟩) .nil) ⟨292,12,292,31⟩) ⟨292,12,292,31⟩) .nil) (.cons (.ifs (.cmp (.loc 5 ⟨293,13,293,17⟩) .In (.tup (.cons (.cst (.str [90]) ⟨293,22,293,25⟩) (.cons (.cst (.str [42]) ⟨293,27,293,30⟩) .nil)) ⟨293,21,293,31⟩) ⟨293,13,293,31⟩) (.cons (.exp (.mcall (.loc 1 ⟨294,12,294,16⟩) 82 ⟨294,12,294,26⟩ (.cons (.loc 57 ⟨294,27,294,30⟩) .nil) ⟨294,12,294,31⟩) ⟨294,12,294,31⟩) .nil) (.cons (.ifs (.cmp (.loc 5 ⟨295,13,295,17⟩) .In (.tup (.cons (.cst (.str [86]) ⟨295,22,295,25⟩) (.cons (.cst (.str [46]) ⟨295,27,295,30⟩) .nil)) ⟨295,21,295,31⟩) ⟨295,13,295,31⟩) (.cons (.exp (.mcall (.loc 1 ⟨296,12,296,16⟩) 83 ⟨296,12,296,27⟩ (.cons (.loc 57 ⟨296,28,296,31⟩) .nil) ⟨296,12,296,32⟩) ⟨296,12,296,32⟩) .nil) (.cons (.ifs (.cmp (.loc 5 ⟨297,13,297,17⟩) .Eq (.cst (.str [80]) ⟨297,21,297,24⟩) ⟨297,13,297,24⟩) (.cons (.exp (.mcall (.loc 1 ⟨298,12,298,16⟩) 84 ⟨298,12,298,29⟩ (.cons (.loc 57 ⟨298,30,298,33⟩) .nil) ⟨298,12,298,34⟩) ⟨298,12,298,34⟩) .nil) (.cons (.ifs (.cmp (.loc 5 ⟨299,13,299,17⟩) .In (.tup (.cons (.cst (.str [43]) ⟨299,22,299,25⟩) (.cons (.cst (.str [45]) ⟨299,27,299,30⟩) .nil)) ⟨299,21,299,31⟩) ⟨299,13,299,31⟩) (.cons (.exp (.mcall (.loc 1 ⟨300,12,300,16⟩) 85 ⟨300,12,300,26⟩ (.cons (.loc 57 ⟨300,27,300,30⟩) .nil) ⟨300,12,300,31⟩) ⟨300,12,300,31⟩) .nil) (.cons (.ifs (.cmp (.loc 5 ⟨301,13,301,17⟩) .Eq (.cst (.str [36]) ⟨301,21,301,24⟩) ⟨301,13,301,24⟩) (.cons (.exp (.mcall (.loc 1 ⟨302,12,302,16⟩) 86 ⟨302,12,302,27⟩ (.cons (.loc 57 ⟨302,28,302,31⟩) .nil) ⟨302,12,302,32⟩) ⟨302,12,302,32⟩) .nil) (.cons (.ifs (.cmp (.loc 5 ⟨303,13,303,17⟩) .In (.tup (.cons (.cst (.str [67,82]) ⟨303,22,303,26⟩) (.cons (.cst (.str [68,66]) ⟨303,28,303,32⟩) .nil)) ⟨303,21,303,33⟩) ⟨303,13,303,33⟩) (.cons (.exp (.mcall (.loc 1 ⟨304,12,304,16⟩) 80 ⟨304,12,304,25⟩ (.cons (.loc 57 ⟨304,26,304,29⟩) .nil) ⟨304,12,304,30⟩) ⟨304,12,304,30⟩) .nil) (.cons (.exp (.mcall (.loc 1 ⟨306,12,306,16⟩) 87 ⟨306,12,306,30⟩ (.cons (.loc 57 ⟨306,31,306,34⟩) .nil) ⟨306,12,306,35⟩) ⟨306,12,306,35⟩) .nil) ⟨303,8,306,35⟩) .nil) ⟨301,8,306,35⟩) .nil) ⟨299,8,306,35⟩) .nil) ⟨297,8,306,35⟩) .nil) ⟨295,8,306,35⟩) .nil) ⟨293,8,306,35⟩) .nil) ⟨291,8,306,35⟩) .nil) ⟨289,8,306,35⟩) (.cons (.asgA (.loc 1 ⟨307,8,307,12⟩) 60 ⟨307,8,307,17⟩ (.bin .Add (.att (.loc 1 ⟨307,20,307,24⟩) 60 ⟨307,20,307,29⟩) (.cst (.int 1) ⟨307,32,307,33⟩) ⟨307,20,307,33⟩) ⟨307,8,307,33⟩) (.cons (.asgA (.loc 1 ⟨308,8,308,12⟩) 72 ⟨308,8,308,17⟩ (.loc 5 ⟨308,20,308,24⟩) ⟨308,8,308,24⟩) .nil)))))
noncomputable def b_Order_is_whole : PSs :=
  (.cons (.ifs (.bop .Or (.cons (.cmp (.mcall (.loc 1 ⟨311,11,311,15⟩) 9 ⟨311,11,311,22⟩ .nil ⟨311,11,311,24⟩) .Eq (.cst (.int 0) ⟨311,28,311,29⟩) ⟨311,11,311,29⟩) (.cons (.cmp (.att (.loc 1 ⟨311,33,311,37⟩) 72 ⟨311,33,311,42⟩) .In (.tup (.cons (.cst (.str [44]) ⟨311,47,311,50⟩) (.cons (.cst (.str [46]) ⟨311,52,311,55⟩) .nil)) ⟨311,46,311,56⟩) ⟨311,33,311,56⟩) .nil)) ⟨311,11,311,56⟩) (.cons (.ret (.cst (.bool false) ⟨312,19,312,24⟩) ⟨312,12,312,24⟩) .nil) .nil ⟨311,8,312,24⟩) (.cons (.ret (.cmp (.bin .Add (.bin .Add (.mcall (.loc 1 ⟨313,15,313,19⟩) 9 ⟨313,15,313,26⟩ .nil ⟨313,15,313,28⟩) (.att (.loc 1 ⟨313,31,313,35⟩) 63 ⟨313,31,313,40⟩) ⟨313,15,313,40⟩) (.att (.loc 1 ⟨313,43,313,47⟩) 64 ⟨313,43,313,53⟩) ⟨313,15,313,53⟩) .LtE (.glb 88 ⟨313,57,313,77⟩) ⟨313,15,313,77⟩) ⟨313,8,313,77⟩) .nil))
noncomputable def b_Order_scale : PSs :=
  (.cons (.ifs (.cmp (.att (.loc 1 ⟨316,11,316,15⟩) 63 ⟨316,11,316,20⟩) .Gt (.cst (.int 0) ⟨316,23,316,24⟩) ⟨316,11,316,24⟩) (.cons (.ret (.bin .Add (.att (.loc 1 ⟨317,19,317,23⟩) 63 ⟨317,19,317,28⟩) (.mcall (.loc 1 ⟨317,31,317,35⟩) 9 ⟨317,31,317,42⟩ .nil ⟨317,31,317,44⟩) ⟨317,19,317,44⟩) ⟨317,12,317,44⟩) .nil) .nil ⟨316,8,317,44⟩) (.cons (.ret (.bin .Sub (.att (.loc 1 ⟨318,15,318,19⟩) 69 ⟨318,15,318,26⟩) (.att (.loc 1 ⟨318,29,318,33⟩) 64 ⟨318,29,318,39⟩) ⟨318,15,318,39⟩) ⟨318,8,318,39⟩) .nil))
noncomputable def b_number_picture : PSs :=
  (.cons (.asgT [(91,⟨320,4,320,9⟩),(22,⟨320,11,320,18⟩)] ⟨320,4,320,18⟩ (.tup (.cons (.call (.glb 89 ⟨320,22,320,27⟩) .nil ⟨320,22,320,29⟩) (.cons (.call (.glb 90 ⟨320,31,320,41⟩) (.cons (.loc 56 ⟨320,42,320,47⟩) .nil) ⟨320,31,320,48⟩) .nil)) ⟨320,21,320,49⟩) ⟨320,4,320,49⟩) (.cons (.for_ 57 ⟨321,8,321,11⟩ (.loc 56 ⟨321,15,321,20⟩) (.cons (.exp (.mcall (.loc 91 ⟨322,8,322,13⟩) 92 ⟨322,8,322,18⟩ (.cons (.loc 57 ⟨322,19,322,22⟩) .nil) ⟨322,8,322,23⟩) ⟨322,8,322,23⟩) .nil) ⟨321,4,322,23⟩) (.cons (.ifs (.bop .Or (.cons (.un .Not (.mcall (.loc 91 ⟨323,11,323,16⟩) 93 ⟨323,11,323,25⟩ .nil ⟨323,11,323,27⟩) ⟨323,7,323,27⟩) (.cons (.cmp (.call (.glb 94 ⟨323,31,323,46⟩) (.cons (.loc 22 ⟨323,47,323,54⟩) .nil) ⟨323,31,323,55⟩) .Gt (.glb 95 ⟨323,58,323,67⟩) ⟨323,31,323,67⟩) .nil)) ⟨323,7,323,67⟩) (.cons (.rais (.call (.glb 45 ⟨324,14,324,26⟩) (.cons (.cst (.str [110,111,32,119,104,111,108,101,32,112,105,99,116,117,114,101]) ⟨324,27,324,45⟩) (.cons (.tup (.cons (.cst (.int 0) ⟨324,48,324,49⟩) (.cons (.call (.glb 30 ⟨324,51,324,54⟩) (.cons (.loc 41 ⟨324,55,324,59⟩) .nil) ⟨324,51,324,60⟩) .nil)) ⟨324,47,324,61⟩) .nil)) ⟨324,14,324,62⟩) ⟨324,8,324,62⟩) .nil) .nil ⟨323,4,324,62⟩) (.cons (.asg 97 ⟨325,4,325,9⟩ (.cmp (.comp (.loc 5 ⟨325,13,325,17⟩) [(5,⟨325,22,325,26⟩),(23,⟨325,28,325,33⟩)] (some ⟨325,22,325,33⟩) (.loc 22 ⟨325,37,325,44⟩) (.cons (.cmp (.loc 5 ⟨325,48,325,52⟩) .NotIn (.mcall (.glb 96 ⟨325,60,325,71⟩) 21 ⟨325,60,325,77⟩ (.cons (.cst (.str [32]) ⟨325,78,325,81⟩) .nil) ⟨325,60,325,82⟩) ⟨325,48,325,82⟩) .nil) [(24,0),(5,0),(23,0),(96,1)] ⟨325,12,325,83⟩) .Eq (.lst .nil ⟨325,87,325,89⟩) ⟨325,12,325,89⟩) ⟨325,4,325,89⟩) (.cons (.asg 0 ⟨326,4,326,12⟩ (.ife (.loc 97 ⟨326,28,326,33⟩) (.cst (.str [110,117,109,101,114,105,99]) ⟨326,15,326,24⟩) (.cst (.str [101,100,105,116,101,100]) ⟨326,39,326,47⟩) ⟨326,15,326,47⟩) ⟨326,4,326,47⟩) (.cons (.asg 11 ⟨327,4,327,13⟩ (.bop .Or (.cons (.att (.loc 91 ⟨327,16,327,21⟩) 61 ⟨327,16,327,30⟩) (.cons (.cmp (.att (.loc 91 ⟨327,34,327,39⟩) 5 ⟨327,34,327,44⟩) .NotEq (.cst (.str []) ⟨327,48,327,50⟩) ⟨327,34,327,50⟩) .nil)) ⟨327,16,327,50⟩) ⟨327,4,327,50⟩) (.cons (.ret (.call (.glb 98 ⟨328,11,328,18⟩) (.cons (.loc 41 ⟨328,19,328,23⟩) (.cons (.loc 22 ⟨328,25,328,32⟩) (.cons (.loc 0 ⟨328,34,328,42⟩) (.cons (.mcall (.loc 91 ⟨328,44,328,49⟩) 9 ⟨328,44,328,56⟩ .nil ⟨328,44,328,58⟩) (.cons (.mcall (.loc 91 ⟨328,60,328,65⟩) 10 ⟨328,60,328,71⟩ .nil ⟨328,60,328,73⟩) (.cons (.loc 11 ⟨328,75,328,84⟩) (.cons (.call (.glb 94 ⟨328,86,328,101⟩) (.cons (.loc 22 ⟨328,102,328,109⟩) .nil) ⟨328,86,328,110⟩) .nil))))))) ⟨328,11,328,111⟩) ⟨328,4,328,111⟩) .nil)))))))
noncomputable def b_text_category : PSs :=
  (.cons (.asg 56 ⟨330,4,330,9⟩ (.comp (.loc 5 ⟨330,13,330,17⟩) [(5,⟨330,22,330,26⟩),(23,⟨330,28,330,33⟩)] (some ⟨330,22,330,33⟩) (.loc 22 ⟨330,37,330,44⟩) .nil [(24,0),(5,0),(23,0)] ⟨330,12,330,45⟩) ⟨330,4,330,45⟩) (.cons (.ifs (.bop .Or (.cons (.cmp (.cst (.str [66]) ⟨331,7,331,10⟩) .In (.loc 56 ⟨331,14,331,19⟩) ⟨331,7,331,19⟩) (.cons (.cmp (.cst (.str [48]) ⟨331,23,331,26⟩) .In (.loc 56 ⟨331,30,331,35⟩) ⟨331,23,331,35⟩) (.cons (.cmp (.cst (.str [47]) ⟨331,39,331,42⟩) .In (.loc 56 ⟨331,46,331,51⟩) ⟨331,39,331,51⟩) .nil))) ⟨331,7,331,51⟩) (.cons (.ret (.cst (.str [97,108,110,117,109,45,101,100,105,116,101,100]) ⟨332,15,332,29⟩) ⟨332,8,332,29⟩) .nil) .nil ⟨331,4,332,29⟩) (.cons (.ret (.ife (.cmp (.loc 56 ⟨333,27,333,32⟩) .Eq (.lst (.cons (.cst (.str [65]) ⟨333,37,333,40⟩) .nil) ⟨333,36,333,41⟩) ⟨333,27,333,41⟩) (.cst (.str [97,108,112,104,97,98,101,116,105,99]) ⟨333,11,333,23⟩) (.cst (.str [97,108,112,104,97,110,117,109,101,114,105,99]) ⟨333,47,333,61⟩) ⟨333,11,333,61⟩) ⟨333,4,333,61⟩) .nil)))
noncomputable def b_text_picture : PSs :=
  (.cons (.for_ 57 ⟨335,8,335,11⟩ (.loc 56 ⟨335,15,335,20⟩) (.cons (.ifs (.cmp (.att (.loc 57 ⟨336,11,336,14⟩) 5 ⟨336,11,336,19⟩) .NotIn (.mcall (.glb 99 ⟨336,27,336,37⟩) 21 ⟨336,27,336,43⟩ (.cons (.cst (.str [32]) ⟨336,44,336,47⟩) .nil) ⟨336,27,336,48⟩) ⟨336,11,336,48⟩) (.cons (.rais (.mcall (.loc 57 ⟨337,18,337,21⟩) 76 ⟨337,18,337,27⟩ .nil ⟨337,18,337,29⟩) ⟨337,12,337,29⟩) .nil) .nil ⟨336,8,337,29⟩) .nil) ⟨335,4,337,29⟩) (.cons (.asg 22 ⟨338,4,338,11⟩ (.call (.glb 90 ⟨338,14,338,24⟩) (.cons (.loc 56 ⟨338,25,338,30⟩) .nil) ⟨338,14,338,31⟩) ⟨338,4,338,31⟩) (.cons (.ifs (.cmp (.call (.glb 94 ⟨339,7,339,22⟩) (.cons (.loc 22 ⟨339,23,339,30⟩) .nil) ⟨339,7,339,31⟩) .Gt (.glb 95 ⟨339,34,339,43⟩) ⟨339,7,339,43⟩) (.cons (.rais (.call (.glb 45 ⟨340,14,340,26⟩) (.cons (.cst (.str [110,111,32,119,104,111,108,101,32,112,105,99,116,117,114,101]) ⟨340,27,340,45⟩) (.cons (.tup (.cons (.cst (.int 0) ⟨340,48,340,49⟩) (.cons (.call (.glb 30 ⟨340,51,340,54⟩) (.cons (.loc 41 ⟨340,55,340,59⟩) .nil) ⟨340,51,340,60⟩) .nil)) ⟨340,47,340,61⟩) .nil)) ⟨340,14,340,62⟩) ⟨340,8,340,62⟩) .nil) .nil ⟨339,4,340,62⟩) (.cons (.ret (.call (.glb 98 ⟨341,11,341,18⟩) (.cons (.loc 41 ⟨341,19,341,23⟩) (.cons (.loc 22 ⟨341,25,341,32⟩) (.cons (.call (.glb 100 ⟨341,34,341,47⟩) (.cons (.loc 22 ⟨341,48,341,55⟩) .nil) ⟨341,34,341,56⟩) (.cons (.cst (.int 0) ⟨341,58,341,59⟩) (.cons (.cst (.int 0) ⟨341,61,341,62⟩) (.cons (.cst (.bool false) ⟨341,64,341,69⟩) (.cons (.call (.glb 94 ⟨341,71,341,86⟩) (.cons (.loc 22 ⟨341,87,341,94⟩) .nil) ⟨341,71,341,95⟩) .nil))))))) ⟨341,11,341,96⟩) ⟨341,4,341,96⟩) .nil))))
noncomputable def b_read_picture : PSs :=
  (.cons (.ifs (.cmp (.call (.glb 30 ⟨343,7,343,10⟩) (.cons (.loc 41 ⟨343,11,343,15⟩) .nil) ⟨343,7,343,16⟩) .Gt (.glb 101 ⟨343,19,343,28⟩) ⟨343,7,343,28⟩) (.cons (.rais (.call (.glb 45 ⟨344,14,344,26⟩) (.cons (.cst (.str [97,32,112,105,99,116,117,114,101,32,111,102,32,109,111,114,101,32,116,104,97,110,32,51,48,32,115,105,103,110,115]) ⟨344,27,344,60⟩) (.cons (.tup (.cons (.cst (.int 0) ⟨344,63,344,64⟩) (.cons (.glb 101 ⟨344,66,344,75⟩) .nil)) ⟨344,62,344,76⟩) .nil)) ⟨344,14,344,77⟩) ⟨344,8,344,77⟩) .nil) .nil ⟨343,4,344,77⟩) (.cons (.asg 105 ⟨345,4,345,9⟩ (.mcall (.cst (.str []) ⟨345,12,345,14⟩) 102 ⟨345,12,345,19⟩ (.cons (.comp (.ife (.cmp2 (.cst (.str [97]) ⟨345,44,345,47⟩) .LtE (.loc 5 ⟨345,51,345,55⟩) .LtE (.cst (.str [122]) ⟨345,59,345,62⟩) ⟨345,44,345,62⟩) (.call (.glb 103 ⟨345,21,345,24⟩) (.cons (.bin .Sub (.call (.glb 104 ⟨345,25,345,28⟩) (.cons (.loc 5 ⟨345,29,345,33⟩) .nil) ⟨345,25,345,34⟩) (.cst (.int 32) ⟨345,37,345,39⟩) ⟨345,25,345,39⟩) .nil) ⟨345,21,345,40⟩) (.loc 5 ⟨345,68,345,72⟩) ⟨345,21,345,72⟩) [(5,⟨345,77,345,81⟩)] none (.loc 41 ⟨345,85,345,89⟩) .nil [(24,0),(5,0),(103,1),(104,1)] ⟨345,20,345,90⟩) .nil) ⟨345,12,345,91⟩) ⟨345,4,345,91⟩) (.cons (.asg 56 ⟨346,4,346,9⟩ (.call (.glb 106 ⟨346,12,346,20⟩) (.cons (.loc 105 ⟨346,21,346,26⟩) .nil) ⟨346,12,346,27⟩) ⟨346,4,346,27⟩) (.cons (.ifs (.cmp (.comp (.loc 57 ⟨347,8,347,11⟩) [(57,⟨347,16,347,19⟩)] none (.loc 56 ⟨347,23,347,28⟩) (.cons (.cmp (.att (.loc 57 ⟨347,32,347,35⟩) 5 ⟨347,32,347,40⟩) .In (.tup (.cons (.cst (.str [65]) ⟨347,45,347,48⟩) (.cons (.cst (.str [88]) ⟨347,50,347,53⟩) .nil)) ⟨347,44,347,54⟩) ⟨347,32,347,54⟩) .nil) [(24,0),(57,0)] ⟨347,7,347,55⟩) .NotEq (.lst .nil ⟨347,59,347,61⟩) ⟨347,7,347,61⟩) (.cons (.ret (.call (.glb 107 ⟨348,15,348,27⟩) (.cons (.loc 105 ⟨348,28,348,33⟩) (.cons (.loc 56 ⟨348,35,348,40⟩) .nil)) ⟨348,15,348,41⟩) ⟨348,8,348,41⟩) .nil) .nil ⟨347,4,348,41⟩) (.cons (.ret (.call (.glb 108 ⟨349,11,349,25⟩) (.cons (.loc 105 ⟨349,26,349,31⟩) (.cons (.loc 56 ⟨349,33,349,38⟩) .nil)) ⟨349,11,349,39⟩) ⟨349,4,349,39⟩) .nil)))))
noncomputable def b_law_table : PSs :=
  (.cons (.asg 109 ⟨352,4,352,8⟩ (.lst (.cons (.tup (.cons (.cst (.str [57,40,53,41]) ⟨352,13,352,19⟩) (.cons (.cst (.str [110,117,109,101,114,105,99]) ⟨352,21,352,30⟩) (.cons (.cst (.int 5) ⟨352,32,352,33⟩) (.cons (.cst (.int 5) ⟨352,35,352,36⟩) (.cons (.cst (.int 0) ⟨352,38,352,39⟩) (.cons (.cst (.bool false) ⟨352,41,352,46⟩) .nil)))))) ⟨352,12,352,47⟩) (.cons (.tup (.cons (.cst (.str [83,57,40,51,41,86,57,57]) ⟨352,50,352,60⟩) (.cons (.cst (.str [110,117,109,101,114,105,99]) ⟨352,62,352,71⟩) (.cons (.cst (.int 5) ⟨352,73,352,74⟩) (.cons (.cst (.int 5) ⟨352,76,352,77⟩) (.cons (.cst (.int 2) ⟨352,79,352,80⟩) (.cons (.cst (.bool true) ⟨352,82,352,86⟩) .nil)))))) ⟨352,49,352,87⟩) (.cons (.tup (.cons (.cst (.str [88,40,55,41]) ⟨352,90,352,96⟩) (.cons (.cst (.str [97,108,112,104,97,110,117,109,101,114,105,99]) ⟨352,98,352,112⟩) (.cons (.cst (.int 7) ⟨352,114,352,115⟩) (.cons (.cst (.int 0) ⟨352,117,352,118⟩) (.cons (.cst (.int 0) ⟨352,120,352,121⟩) (.cons (.cst (.bool false) ⟨352,123,352,128⟩) .nil)))))) ⟨352,89,352,129⟩) .nil))) ⟨352,11,352,130⟩) ⟨352,4,352,130⟩) (.cons (.asg 109 ⟨353,4,353,8⟩ (.bin .Add (.loc 109 ⟨353,11,353,15⟩) (.lst (.cons (.tup (.cons (.cst (.str [65,40,51,41]) ⟨353,20,353,26⟩) (.cons (.cst (.str [97,108,112,104,97,98,101,116,105,99]) ⟨353,28,353,40⟩) (.cons (.cst (.int 3) ⟨353,42,353,43⟩) (.cons (.cst (.int 0) ⟨353,45,353,46⟩) (.cons (.cst (.int 0) ⟨353,48,353,49⟩) (.cons (.cst (.bool false) ⟨353,51,353,56⟩) .nil)))))) ⟨353,19,353,57⟩) (.cons (.tup (.cons (.cst (.str [88,88,47,88,88]) ⟨353,60,353,67⟩) (.cons (.cst (.str [97,108,110,117,109,45,101,100,105,116,101,100]) ⟨353,69,353,83⟩) (.cons (.cst (.int 5) ⟨353,85,353,86⟩) (.cons (.cst (.int 0) ⟨353,88,353,89⟩) (.cons (.cst (.int 0) ⟨353,91,353,92⟩) (.cons (.cst (.bool false) ⟨353,94,353,99⟩) .nil)))))) ⟨353,59,353,100⟩) (.cons (.tup (.cons (.cst (.str [90,90,57,46,57,57]) ⟨353,103,353,111⟩) (.cons (.cst (.str [101,100,105,116,101,100]) ⟨353,113,353,121⟩) (.cons (.cst (.int 6) ⟨353,123,353,124⟩) (.cons (.cst (.int 5) ⟨353,126,353,127⟩) (.cons (.cst (.int 2) ⟨353,129,353,130⟩) (.cons (.cst (.bool false) ⟨353,132,353,137⟩) .nil)))))) ⟨353,102,353,138⟩) .nil))) ⟨353,18,353,139⟩) ⟨353,11,353,139⟩) ⟨353,4,353,139⟩) (.cons (.asg 109 ⟨354,4,354,8⟩ (.bin .Add (.loc 109 ⟨354,11,354,15⟩) (.lst (.cons (.tup (.cons (.cst (.str [42,42,57]) ⟨354,20,354,25⟩) (.cons (.cst (.str [101,100,105,116,101,100]) ⟨354,27,354,35⟩) (.cons (.cst (.int 3) ⟨354,37,354,38⟩) (.cons (.cst (.int 3) ⟨354,40,354,41⟩) (.cons (.cst (.int 0) ⟨354,43,354,44⟩) (.cons (.cst (.bool false) ⟨354,46,354,51⟩) .nil)))))) ⟨354,19,354,52⟩) (.cons (.tup (.cons (.cst (.str [83,57,40,49,56,41]) ⟨354,55,354,63⟩) (.cons (.cst (.str [110,117,109,101,114,105,99]) ⟨354,65,354,74⟩) (.cons (.cst (.int 18) ⟨354,76,354,78⟩) (.cons (.cst (.int 18) ⟨354,80,354,82⟩) (.cons (.cst (.int 0) ⟨354,84,354,85⟩) (.cons (.cst (.bool true) ⟨354,87,354,91⟩) .nil)))))) ⟨354,54,354,92⟩) (.cons (.tup (.cons (.cst (.str [57,40,52,41]) ⟨354,95,354,101⟩) (.cons (.cst (.str [110,117,109,101,114,105,99]) ⟨354,103,354,112⟩) (.cons (.cst (.int 4) ⟨354,114,354,115⟩) (.cons (.cst (.int 4) ⟨354,117,354,118⟩) (.cons (.cst (.int 0) ⟨354,120,354,121⟩) (.cons (.cst (.bool false) ⟨354,123,354,128⟩) .nil)))))) ⟨354,94,354,129⟩) .nil))) ⟨354,18,354,130⟩) ⟨354,11,354,130⟩) ⟨354,4,354,130⟩) (.cons (.ret (.bin .Add (.loc 109 ⟨355,11,355,15⟩) (.lst (.cons (.tup (.cons (.cst (.str [83,57,40,49,48,41]) ⟨355,20,355,28⟩) (.cons (.cst (.str [110,117,109,101,114,105,99]) ⟨355,30,355,39⟩) (.cons (.cst (.int 10) ⟨355,41,355,43⟩) (.cons (.cst (.int 10) ⟨355,45,355,47⟩) (.cons (.cst (.int 0) ⟨355,49,355,50⟩) (.cons (.cst (.bool true) ⟨355,52,355,56⟩) .nil)))))) ⟨355,19,355,57⟩) (.cons (.tup (.cons (.cst (.str [83,86,57]) ⟨355,60,355,65⟩) (.cons (.cst (.str [110,117,109,101,114,105,99]) ⟨355,67,355,76⟩) (.cons (.cst (.int 1) ⟨355,78,355,79⟩) (.cons (.cst (.int 1) ⟨355,81,355,82⟩) (.cons (.cst (.int 1) ⟨355,84,355,85⟩) (.cons (.cst (.bool true) ⟨355,87,355,91⟩) .nil)))))) ⟨355,59,355,92⟩) .nil)) ⟨355,18,355,93⟩) ⟨355,11,355,93⟩) ⟨355,4,355,93⟩) .nil))))
noncomputable def b_law_is_let : PSs :=
  (.cons (.asgT [(3,⟨357,4,357,11⟩),(0,⟨357,13,357,21⟩)] ⟨357,4,357,21⟩ (.tup (.cons (.sub (.loc 110 ⟨357,25,357,28⟩) (.cst (.int 0) ⟨357,29,357,30⟩) ⟨357,25,357,31⟩) (.cons (.sub (.loc 110 ⟨357,33,357,36⟩) (.cst (.int 1) ⟨357,37,357,38⟩) ⟨357,33,357,39⟩) .nil)) ⟨357,24,357,40⟩) ⟨357,4,357,40⟩) (.cons (.ifs (.bop .Or (.cons (.cmp (.loc 4 ⟨358,7,358,12⟩) .NotIn (.tup (.cons (.cst (.str [100,105,115,112,108,97,121]) ⟨358,21,358,30⟩) (.cons (.cst (.str [112,97,99,107,101,100]) ⟨358,32,358,40⟩) (.cons (.cst (.str [98,105,110,97,114,121]) ⟨358,42,358,50⟩) .nil))) ⟨358,20,358,51⟩) ⟨358,7,358,51⟩) (.cons (.cmp (.loc 5 ⟨358,55,358,59⟩) .NotIn (.tup (.cons (.cst (.str [108,101,97,100,105,110,103]) ⟨358,68,358,77⟩) (.cons (.cst (.str [116,114,97,105,108,105,110,103]) ⟨358,79,358,89⟩) .nil)) ⟨358,67,358,90⟩) ⟨358,55,358,90⟩) .nil)) ⟨358,7,358,90⟩) (.cons (.ret (.cst (.bool false) ⟨359,15,359,20⟩) ⟨359,8,359,20⟩) .nil) .nil ⟨358,4,359,20⟩) (.cons (.ifs (.bop .And (.cons (.cmp (.loc 4 ⟨360,7,360,12⟩) .NotEq (.cst (.str [100,105,115,112,108,97,121]) ⟨360,16,360,25⟩) ⟨360,7,360,25⟩) (.cons (.cmp (.loc 0 ⟨360,30,360,38⟩) .NotEq (.cst (.str [110,117,109,101,114,105,99]) ⟨360,42,360,51⟩) ⟨360,30,360,51⟩) .nil)) ⟨360,7,360,51⟩) (.cons (.ret (.cst (.bool false) ⟨361,15,361,20⟩) ⟨361,8,361,20⟩) .nil) .nil ⟨360,4,361,20⟩) (.cons (.ifs (.bop .And (.cons (.bop .Or (.cons (.cmp (.loc 5 ⟨362,8,362,12⟩) .Eq (.cst (.str [108,101,97,100,105,110,103]) ⟨362,16,362,25⟩) ⟨362,8,362,25⟩) (.cons (.loc 6 ⟨362,29,362,40⟩) .nil)) ⟨362,8,362,40⟩) (.cons (.bop .Or (.cons (.cmp (.loc 0 ⟨362,47,362,55⟩) .NotEq (.cst (.str [110,117,109,101,114,105,99]) ⟨362,59,362,68⟩) ⟨362,47,362,68⟩) (.cons (.un .Not (.sub (.loc 110 ⟨362,76,362,79⟩) (.cst (.int 5) ⟨362,80,362,81⟩) ⟨362,76,362,82⟩) ⟨362,72,362,82⟩) (.cons (.cmp (.loc 4 ⟨362,86,362,91⟩) .NotEq (.cst (.str [100,105,115,112,108,97,121]) ⟨362,95,362,104⟩) ⟨362,86,362,104⟩) .nil))) ⟨362,47,362,104⟩) .nil)) ⟨362,7,362,105⟩) (.cons (.ret (.cst (.bool false) ⟨363,15,363,20⟩) ⟨363,8,363,20⟩) .nil) .nil ⟨362,4,363,20⟩) (.cons (.ifs (.bop .And (.cons (.loc 7 ⟨364,7,364,19⟩) (.cons (.cmp (.loc 0 ⟨364,24,364,32⟩) .NotEq (.cst (.str [97,108,112,104,97,98,101,116,105,99]) ⟨364,36,364,48⟩) ⟨364,24,364,48⟩) (.cons (.cmp (.loc 0 ⟨364,54,364,62⟩) .NotEq (.cst (.str [97,108,112,104,97,110,117,109,101,114,105,99]) ⟨364,66,364,80⟩) ⟨364,54,364,80⟩) .nil))) ⟨364,7,364,81⟩) (.cons (.ret (.cst (.bool false) ⟨365,15,365,20⟩) ⟨365,8,365,20⟩) .nil) .nil ⟨364,4,365,20⟩) (.cons (.ret (.bop .Or (.cons (.un .Not (.loc 8 ⟨366,15,366,28⟩) ⟨366,11,366,28⟩) (.cons (.bop .And (.cons (.cmp (.loc 0 ⟨366,33,366,41⟩) .Eq (.cst (.str [101,100,105,116,101,100]) ⟨366,45,366,53⟩) ⟨366,33,366,53⟩) (.cons (.cmp (.cst (.str [42]) ⟨366,58,366,61⟩) .NotIn (.loc 3 ⟨366,69,366,76⟩) ⟨366,58,366,76⟩) .nil)) ⟨366,33,366,76⟩) .nil)) ⟨366,11,366,77⟩) ⟨366,4,366,77⟩) .nil))))))
noncomputable def b_law_size : PSs :=
  (.cons (.ifs (.cmp (.loc 4 ⟨368,7,368,12⟩) .Eq (.cst (.str [112,97,99,107,101,100]) ⟨368,16,368,24⟩) ⟨368,7,368,24⟩) (.cons (.ret (.call (.glb 50 ⟨369,15,369,18⟩) (.cons (.bin .FloorDiv (.bin .Add (.sub (.loc 110 ⟨369,20,369,23⟩) (.cst (.int 3) ⟨369,24,369,25⟩) ⟨369,20,369,26⟩) (.cst (.int 2) ⟨369,29,369,30⟩) ⟨369,20,369,30⟩) (.cst (.int 2) ⟨369,35,369,36⟩) ⟨369,19,369,36⟩) .nil) ⟨369,15,369,37⟩) ⟨369,8,369,37⟩) .nil) .nil ⟨368,4,369,37⟩) (.cons (.ifs (.cmp (.loc 4 ⟨370,7,370,12⟩) .Eq (.cst (.str [98,105,110,97,114,121]) ⟨370,16,370,24⟩) ⟨370,7,370,24⟩) (.cons (.ret (.ife (.cmp (.sub (.loc 110 ⟨371,20,371,23⟩) (.cst (.int 3) ⟨371,24,371,25⟩) ⟨371,20,371,26⟩) .Lt (.cst (.int 5) ⟨371,29,371,30⟩) ⟨371,20,371,30⟩) (.cst (.int 2) ⟨371,15,371,16⟩) (.ife (.cmp (.sub (.loc 110 ⟨371,41,371,44⟩) (.cst (.int 3) ⟨371,45,371,46⟩) ⟨371,41,371,47⟩) .Lt (.cst (.int 10) ⟨371,50,371,52⟩) ⟨371,41,371,52⟩) (.cst (.int 4) ⟨371,36,371,37⟩) (.cst (.int 8) ⟨371,58,371,59⟩) ⟨371,36,371,59⟩) ⟨371,15,371,59⟩) ⟨371,8,371,59⟩) .nil) .nil ⟨370,4,371,59⟩) (.cons (.ret (.bin .Add (.sub (.loc 110 ⟨372,11,372,14⟩) (.cst (.int 2) ⟨372,15,372,16⟩) ⟨372,11,372,17⟩) (.call (.glb 50 ⟨372,20,372,23⟩) (.cons (.loc 6 ⟨372,24,372,35⟩) .nil) ⟨372,20,372,36⟩) ⟨372,11,372,36⟩) ⟨372,4,372,36⟩) .nil)))
noncomputable def b_law_shape : PSs :=
  (.cons (.tri (.cons (.ret (.call (.glb 111 ⟨375,15,375,23⟩) (.cons (.loc 3 ⟨375,24,375,31⟩) (.cons (.loc 4 ⟨375,33,375,38⟩) (.cons (.loc 5 ⟨375,40,375,44⟩) (.cons (.loc 6 ⟨375,46,375,57⟩) (.cons (.loc 7 ⟨375,59,375,71⟩) (.cons (.loc 8 ⟨375,73,375,86⟩) .nil)))))) ⟨375,15,375,87⟩) ⟨375,8,375,87⟩) .nil) (.glb 17 ⟨376,11,376,20⟩) (.cons (.ret (.cst .none ⟨377,15,377,19⟩) ⟨377,8,377,19⟩) .nil) ⟨376,4,377,19⟩ ⟨374,4,377,19⟩) .nil)
noncomputable def b_law_right : PSs :=
  (.cons (.asg 15 ⟨379,4,379,9⟩ (.call (.glb 112 ⟨379,12,379,22⟩) (.cons (.loc 3 ⟨379,23,379,30⟩) (.cons (.loc 4 ⟨379,32,379,37⟩) (.cons (.loc 5 ⟨379,39,379,43⟩) (.cons (.loc 6 ⟨379,45,379,56⟩) (.cons (.loc 7 ⟨379,58,379,70⟩) (.cons (.loc 8 ⟨379,72,379,85⟩) .nil)))))) ⟨379,12,379,86⟩) ⟨379,4,379,86⟩) (.cons (.ifs (.un .Not (.call (.glb 113 ⟨380,11,380,22⟩) (.cons (.loc 110 ⟨380,23,380,26⟩) (.cons (.loc 4 ⟨380,28,380,33⟩) (.cons (.loc 5 ⟨380,35,380,39⟩) (.cons (.loc 6 ⟨380,41,380,52⟩) (.cons (.loc 7 ⟨380,54,380,66⟩) (.cons (.loc 8 ⟨380,68,380,81⟩) .nil)))))) ⟨380,11,380,82⟩) ⟨380,7,380,82⟩) (.cons (.ret (.cmp (.loc 15 ⟨381,15,381,20⟩) .Is (.cst .none ⟨381,24,381,28⟩) ⟨381,15,381,28⟩) ⟨381,8,381,28⟩) .nil) .nil ⟨380,4,381,28⟩) (.cons (.ifs (.cmp (.loc 15 ⟨382,7,382,12⟩) .Is (.cst .none ⟨382,16,382,20⟩) ⟨382,7,382,20⟩) (.cons (.ret (.cst (.bool false) ⟨383,15,383,20⟩) ⟨383,8,383,20⟩) .nil) .nil ⟨382,4,383,20⟩) (.cons (.asg 2 ⟨384,4,384,8⟩ (.call (.glb 114 ⟨384,11,384,20⟩) (.cons (.loc 110 ⟨384,21,384,24⟩) (.cons (.loc 4 ⟨384,26,384,31⟩) (.cons (.loc 6 ⟨384,33,384,44⟩) .nil))) ⟨384,11,384,45⟩) ⟨384,4,384,45⟩) (.cons (.asg 115 ⟨385,4,385,7⟩ (.tup (.cons (.sub (.loc 110 ⟨385,11,385,14⟩) (.cst (.int 1) ⟨385,15,385,16⟩) ⟨385,11,385,17⟩) (.cons (.loc 2 ⟨385,19,385,23⟩) (.cons (.mcall (.loc 3 ⟨385,25,385,32⟩) 14 ⟨385,25,385,37⟩ .nil ⟨385,25,385,39⟩) (.cons (.loc 4 ⟨385,41,385,46⟩) (.cons (.tup (.cons (.loc 5 ⟨385,49,385,53⟩) (.cons (.loc 6 ⟨385,55,385,66⟩) (.cons (.loc 7 ⟨385,68,385,80⟩) (.cons (.loc 8 ⟨385,82,385,95⟩) .nil)))) ⟨385,48,385,96⟩) (.cons (.sl1 (.loc 110 ⟨385,98,385,101⟩) (.cst (.int 3) ⟨385,102,385,103⟩) ⟨385,102,385,104⟩ ⟨385,98,385,105⟩) .nil)))))) ⟨385,10,385,106⟩) ⟨385,4,385,106⟩) (.cons (.asg 116 ⟨386,4,386,9⟩ (.un .USub (.cst (.int 1) ⟨386,13,386,14⟩) ⟨386,12,386,14⟩) ⟨386,4,386,14⟩) (.cons (.ifs (.bop .And (.cons (.sub (.loc 110 ⟨387,7,387,10⟩) (.cst (.int 5) ⟨387,11,387,12⟩) ⟨387,7,387,13⟩) (.cons (.cmp (.loc 4 ⟨387,18,387,23⟩) .Eq (.cst (.str [100,105,115,112,108,97,121]) ⟨387,27,387,36⟩) ⟨387,18,387,36⟩) .nil)) ⟨387,7,387,36⟩) (.cons (.asg 116 ⟨388,8,388,13⟩ (.ife (.cmp (.loc 5 ⟨388,21,388,25⟩) .Eq (.cst (.str [108,101,97,100,105,110,103]) ⟨388,29,388,38⟩) ⟨388,21,388,38⟩) (.cst (.int 0) ⟨388,16,388,17⟩) (.bin .Sub (.loc 2 ⟨388,44,388,48⟩) (.cst (.int 1) ⟨388,51,388,52⟩) ⟨388,44,388,52⟩) ⟨388,16,388,52⟩) ⟨388,8,388,52⟩) .nil) .nil ⟨387,4,388,52⟩) (.cons (.ifs (.bop .Or (.cons (.cmp (.mcall (.loc 15 ⟨389,7,389,12⟩) 14 ⟨389,7,389,17⟩ .nil ⟨389,7,389,19⟩) .NotEq (.loc 115 ⟨389,23,389,26⟩) ⟨389,7,389,26⟩) (.cons (.cmp (.mcall (.loc 15 ⟨389,30,389,35⟩) 117 ⟨389,30,389,46⟩ .nil ⟨389,30,389,48⟩) .NotEq (.loc 116 ⟨389,52,389,57⟩) ⟨389,30,389,57⟩) (.cons (.cmp (.call (.glb 118 ⟨389,61,389,71⟩) (.cons (.loc 15 ⟨389,72,389,77⟩) .nil) ⟨389,61,389,78⟩) .NotEq (.bin .Pow (.cst (.int 10) ⟨389,82,389,84⟩) (.sub (.loc 110 ⟨389,88,389,91⟩) (.cst (.int 3) ⟨389,92,389,93⟩) ⟨389,88,389,94⟩) ⟨389,82,389,94⟩) ⟨389,61,389,94⟩) .nil))) ⟨389,7,389,94⟩) (.cons (.ret (.cst (.bool false) ⟨390,15,390,20⟩) ⟨390,8,390,20⟩) .nil) .nil ⟨389,4,390,20⟩) (.cons (.asg 97 ⟨391,4,391,9⟩ (.call (.glb 119 ⟨391,12,391,26⟩) (.cons (.loc 15 ⟨391,27,391,32⟩) .nil) ⟨391,12,391,33⟩) ⟨391,4,391,33⟩) (.cons (.ifs (.cmp (.mcall (.loc 97 ⟨392,7,392,12⟩) 14 ⟨392,7,392,17⟩ .nil ⟨392,7,392,19⟩) .NotEq (.tup (.cons (.cst (.str [110,117,109,101,114,105,99]) ⟨392,24,392,33⟩) (.cons (.sub (.loc 110 ⟨392,35,392,38⟩) (.cst (.int 3) ⟨392,39,392,40⟩) ⟨392,35,392,41⟩) (.cons (.cst .none ⟨392,43,392,47⟩) (.cons (.cst (.str [100,105,115,112,108,97,121]) ⟨392,49,392,58⟩) (.cons (.tup (.cons (.cst (.str [116,114,97,105,108,105,110,103]) ⟨392,61,392,71⟩) (.cons (.cst (.bool false) ⟨392,73,392,78⟩) (.cons (.cst (.bool false) ⟨392,80,392,85⟩) (.cons (.cst (.bool false) ⟨392,87,392,92⟩) .nil)))) ⟨392,60,392,93⟩) (.cons (.tup (.cons (.sub (.loc 110 ⟨392,96,392,99⟩) (.cst (.int 3) ⟨392,100,392,101⟩) ⟨392,96,392,102⟩) (.cons (.sub (.loc 110 ⟨392,104,392,107⟩) (.cst (.int 4) ⟨392,108,392,109⟩) ⟨392,104,392,110⟩) (.cons (.cst (.bool false) ⟨392,112,392,117⟩) .nil))) ⟨392,95,392,118⟩) .nil)))))) ⟨392,23,392,119⟩) ⟨392,7,392,119⟩) (.cons (.ret (.cst (.bool false) ⟨393,15,393,20⟩) ⟨393,8,393,20⟩) .nil) .nil ⟨392,4,393,20⟩) (.cons (.ret (.bop .And (.cons (.cmp (.call (.glb 120 ⟨394,11,394,21⟩) (.cons (.loc 15 ⟨394,22,394,27⟩) .nil) ⟨394,11,394,28⟩) .Eq (.cmp (.sub (.loc 110 ⟨394,33,394,36⟩) (.cst (.int 1) ⟨394,37,394,38⟩) ⟨394,33,394,39⟩) .Eq (.cst (.str [110,117,109,101,114,105,99]) ⟨394,43,394,52⟩) ⟨394,33,394,52⟩) ⟨394,11,394,53⟩) (.cons (.cmp (.call (.glb 121 ⟨394,58,394,67⟩) (.cons (.loc 15 ⟨394,68,394,73⟩) .nil) ⟨394,58,394,74⟩) .Eq (.cmp (.sub (.loc 110 ⟨394,79,394,82⟩) (.cst (.int 1) ⟨394,83,394,84⟩) ⟨394,79,394,85⟩) .Eq (.cst (.str [110,117,109,101,114,105,99]) ⟨394,89,394,98⟩) ⟨394,79,394,98⟩) ⟨394,58,394,99⟩) .nil)) ⟨394,11,394,99⟩) ⟨394,4,394,99⟩) .nil)))))))))))
noncomputable def b_law_width : PSs :=
  (.cons (.tri (.cons (.ret (.call (.loc 122 ⟨397,15,397,18⟩) (.cons (.loc 9 ⟨397,19,397,25⟩) .nil) ⟨397,15,397,26⟩) ⟨397,8,397,26⟩) .nil) (.glb 17 ⟨398,11,398,20⟩) (.cons (.ret (.cst (.int 0) ⟨399,15,399,16⟩) ⟨399,8,399,16⟩) .nil) ⟨398,4,399,16⟩ ⟨396,4,399,16⟩) .nil)
noncomputable def b_law_others_right : PSs :=
  (.cons (.asg 12 ⟨401,4,401,11⟩ (.tup (.cons (.cst (.str [116,114,97,105,108,105,110,103]) ⟨401,15,401,25⟩) (.cons (.cst (.bool false) ⟨401,27,401,32⟩) (.cons (.cst (.bool false) ⟨401,34,401,39⟩) (.cons (.cst (.bool false) ⟨401,41,401,46⟩) .nil)))) ⟨401,14,401,47⟩) ⟨401,4,401,47⟩) (.cons (.ifs (.bop .Or (.cons (.cmp (.mcall (.call (.glb 123 ⟨402,7,402,18⟩) (.cons (.loc 10 ⟨402,19,402,24⟩) .nil) ⟨402,7,402,25⟩) 14 ⟨402,7,402,30⟩ .nil ⟨402,7,402,32⟩) .NotEq (.tup (.cons (.cst (.str [103,114,111,117,112]) ⟨402,37,402,44⟩) (.cons (.loc 10 ⟨402,46,402,51⟩) (.cons (.cst .none ⟨402,53,402,57⟩) (.cons (.cst (.str [100,105,115,112,108,97,121]) ⟨402,59,402,68⟩) (.cons (.loc 12 ⟨402,70,402,77⟩) (.cons (.tup (.cons (.cst (.int 0) ⟨402,80,402,81⟩) (.cons (.cst (.int 0) ⟨402,83,402,84⟩) (.cons (.cst (.bool false) ⟨402,86,402,91⟩) .nil))) ⟨402,79,402,92⟩) .nil)))))) ⟨402,36,402,93⟩) ⟨402,7,402,93⟩) (.cons (.call (.glb 121 ⟨402,97,402,106⟩) (.cons (.call (.glb 123 ⟨402,107,402,118⟩) (.cons (.loc 10 ⟨402,119,402,124⟩) .nil) ⟨402,107,402,125⟩) .nil) ⟨402,97,402,126⟩) .nil)) ⟨402,7,402,126⟩) (.cons (.ret (.cst (.bool false) ⟨403,15,403,20⟩) ⟨403,8,403,20⟩) .nil) .nil ⟨402,4,403,20⟩) (.cons (.ifs (.cmp (.mcall (.call (.glb 124 ⟨404,7,404,17⟩) (.cons (.bin .Mult (.cst (.byt [120]) ⟨404,18,404,22⟩) (.loc 10 ⟨404,25,404,30⟩) ⟨404,18,404,30⟩) .nil) ⟨404,7,404,31⟩) 14 ⟨404,7,404,36⟩ .nil ⟨404,7,404,38⟩) .NotEq (.tup (.cons (.cst (.str [97,108,112,104,97,110,117,109,101,114,105,99]) ⟨404,43,404,57⟩) (.cons (.loc 10 ⟨404,59,404,64⟩) (.cons (.cst .none ⟨404,66,404,70⟩) (.cons (.cst (.str [100,105,115,112,108,97,121]) ⟨404,72,404,81⟩) (.cons (.loc 12 ⟨404,83,404,90⟩) (.cons (.tup (.cons (.cst (.int 0) ⟨404,93,404,94⟩) (.cons (.cst (.int 0) ⟨404,96,404,97⟩) (.cons (.cst (.bool false) ⟨404,99,404,104⟩) .nil))) ⟨404,92,404,105⟩) .nil)))))) ⟨404,42,404,106⟩) ⟨404,7,404,106⟩) (.cons (.ret (.cst (.bool false) ⟨405,15,405,20⟩) ⟨405,8,405,20⟩) .nil) .nil ⟨404,4,405,20⟩) (.cons (.ifs (.bop .Or (.cons (.cmp (.mcall (.call (.glb 125 ⟨406,7,406,18⟩) .nil ⟨406,7,406,20⟩) 14 ⟨406,7,406,25⟩ .nil ⟨406,7,406,27⟩) .NotEq (.tup (.cons (.cst (.str [105,110,100,101,120]) ⟨406,32,406,39⟩) (.cons (.cst (.int 4) ⟨406,41,406,42⟩) (.cons (.cst .none ⟨406,44,406,48⟩) (.cons (.cst (.str [105,110,100,101,120]) ⟨406,50,406,57⟩) (.cons (.loc 12 ⟨406,59,406,66⟩) (.cons (.tup (.cons (.cst (.int 9) ⟨406,69,406,70⟩) (.cons (.cst (.int 0) ⟨406,72,406,73⟩) (.cons (.cst (.bool true) ⟨406,75,406,79⟩) .nil))) ⟨406,68,406,80⟩) .nil)))))) ⟨406,31,406,81⟩) ⟨406,7,406,81⟩) (.cons (.call (.glb 120 ⟨406,85,406,95⟩) (.cons (.call (.glb 125 ⟨406,96,406,107⟩) .nil ⟨406,96,406,109⟩) .nil) ⟨406,85,406,110⟩) (.cons (.un .Not (.call (.glb 121 ⟨406,119,406,128⟩) (.cons (.call (.glb 125 ⟨406,129,406,140⟩) .nil ⟨406,129,406,142⟩) .nil) ⟨406,119,406,143⟩) ⟨406,115,406,143⟩) .nil))) ⟨406,7,406,144⟩) (.cons (.ret (.cst (.bool false) ⟨407,15,407,20⟩) ⟨407,8,407,20⟩) .nil) .nil ⟨406,4,407,20⟩) (.cons (.asg 9 ⟨408,4,408,10⟩ (.call (.glb 35 ⟨408,13,408,16⟩) (.cons (.call (.glb 30 ⟨408,17,408,20⟩) (.cons (.call (.glb 126 ⟨408,21,408,24⟩) (.cons (.call (.glb 37 ⟨408,25,408,28⟩) (.cons (.loc 34 ⟨408,29,408,34⟩) .nil) ⟨408,25,408,35⟩) .nil) ⟨408,21,408,36⟩) .nil) ⟨408,17,408,37⟩) (.cons (.loc 10 ⟨408,39,408,44⟩) .nil)) ⟨408,13,408,45⟩) ⟨408,4,408,45⟩) (.cons (.asg 15 ⟨409,4,409,9⟩ (.call (.glb 127 ⟨409,12,409,24⟩) (.cons (.tup (.cons (.loc 34 ⟨409,26,409,31⟩) (.cons (.loc 10 ⟨409,33,409,38⟩) .nil)) ⟨409,25,409,39⟩) .nil) ⟨409,12,409,40⟩) ⟨409,4,409,40⟩) (.cons (.ifs (.cmp (.mcall (.loc 15 ⟨410,7,410,12⟩) 14 ⟨410,7,410,17⟩ .nil ⟨410,7,410,19⟩) .NotEq (.tup (.cons (.cst (.str [110,117,109,101,114,105,99]) ⟨410,24,410,33⟩) (.cons (.loc 9 ⟨410,35,410,41⟩) (.cons (.cst .none ⟨410,43,410,47⟩) (.cons (.cst (.str [100,105,115,112,108,97,121]) ⟨410,49,410,58⟩) (.cons (.loc 12 ⟨410,60,410,67⟩) (.cons (.tup (.cons (.loc 9 ⟨410,70,410,76⟩) (.cons (.loc 10 ⟨410,78,410,83⟩) (.cons (.cmp (.loc 34 ⟨410,85,410,90⟩) .Lt (.cst (.int 0) ⟨410,93,410,94⟩) ⟨410,85,410,94⟩) .nil))) ⟨410,69,410,95⟩) .nil)))))) ⟨410,23,410,96⟩) ⟨410,7,410,96⟩) (.cons (.ret (.cst (.bool false) ⟨411,15,411,20⟩) ⟨411,8,411,20⟩) .nil) .nil ⟨410,4,411,20⟩) (.cons (.ret (.cmp (.mcall (.loc 15 ⟨412,11,412,16⟩) 117 ⟨412,11,412,27⟩ .nil ⟨412,11,412,29⟩) .Eq (.ife (.cmp (.loc 34 ⟨412,48,412,53⟩) .Lt (.cst (.int 0) ⟨412,56,412,57⟩) ⟨412,48,412,57⟩) (.bin .Sub (.loc 9 ⟨412,34,412,40⟩) (.cst (.int 1) ⟨412,43,412,44⟩) ⟨412,34,412,44⟩) (.un .USub (.cst (.int 1) ⟨412,64,412,65⟩) ⟨412,63,412,65⟩) ⟨412,34,412,65⟩) ⟨412,11,412,66⟩) ⟨412,4,412,66⟩) .nil))))))))
noncomputable def fnT : List (Nat × FnRec) := [
  (0, ⟨[1, 0, 2, 3, 4, 5, 6, 7, 8], [.none, .str [100,105,115,112,108,97,121], .str [116,114,97,105,108,105,110,103], .bool false, .bool false, .bool false], b_Shape_init, [0, 8, 7, 6, 3, 1, 5, 2, 4], []⟩),
  (1, ⟨[1], [], b_Shape_told, [12, 13, 3, 1], []⟩),
  (2, ⟨[1], [], b_Shape_sign_place, [1], []⟩),
  (3, ⟨[15], [], b_is_numeric, [15], []⟩),
  (4, ⟨[15], [], b_has_units, [15], []⟩),
  (5, ⟨[15], [], b_unit_bound, [15], []⟩),
  (6, ⟨[9], [], b_binary_width, [9], [16, 17]⟩),
  (7, ⟨[9], [], b_packed_width, [9], [16, 17]⟩),
  (8, ⟨[3, 4, 6], [], b_size_for, [6, 3, 4], [18, 19]⟩),
  (9, ⟨[3, 4], [], b_check_usage, [3, 4], [20, 17]⟩),
  (10, ⟨[3, 4, 5, 6], [], b_check_sign, [6, 3, 5, 4], [17]⟩),
  (11, ⟨[3, 7, 8], [], b_check_clauses, [8, 7, 3], [17]⟩),
  (12, ⟨[3, 4, 5, 6, 7, 8], [.str [100,105,115,112,108,97,121], .str [116,114,97,105,108,105,110,103], .bool false, .bool false, .bool false], b_shape_of, [8, 7, 6, 3, 5, 2, 4], [25, 26, 27, 28, 29]⟩),
  (13, ⟨[2], [], b_group_shape, [2], [29]⟩),
  (14, ⟨[31], [], b_text_shape, [31], [29, 30]⟩),
  (15, ⟨[0, 2, 4, 9, 10, 11], [], b_numbered_shape, [0, 9, 32, 11, 10, 2, 4], [29]⟩),
  (16, ⟨[13], [], b_figure_count, [23, 13, 33], []⟩),
  (17, ⟨[13], [], b_number_shape, [9, 13, 10, 34], [35, 36, 37, 38]⟩),
  (18, ⟨[], [], b_index_shape, [], [38, 39, 40]⟩),
  (19, ⟨[15], [], b_unsigned_shape, [15], [38]⟩),
  (20, ⟨[1, 41, 22, 0, 9, 10, 11, 2], [], b_Picture_init, [0, 9, 11, 10, 1, 2, 22, 41], []⟩),
  (21, ⟨[1], [], b_Picture_told, [1], [42]⟩),
  (22, ⟨[1, 5, 23, 43], [], b_Sign_init, [43, 23, 1, 5], []⟩),
  (23, ⟨[41, 43], [], b_sign_at, [43, 41], [44, 45]⟩),
  (24, ⟨[41, 43], [], b_count_at, [43, 47, 48, 41], [35, 30, 50, 45]⟩),
  (25, ⟨[41], [], b_signs_of, [43, 23, 47, 32, 5, 41], [30, 51, 52, 53, 45, 55]⟩),
  (26, ⟨[56], [], b_symbols_of, [32, 57, 56], []⟩),
  (27, ⟨[22], [], b_size_of_symbols, [22], [58]⟩),
  (28, ⟨[1], [], b_Order_init, [1], []⟩),
  (29, ⟨[1], [], b_Order_digits, [1], []⟩),
  (30, ⟨[1, 23, 75], [], b_Order_add_behind, [23, 75, 1], []⟩),
  (31, ⟨[1, 57], [], b_Order_take_nine, [57, 1], []⟩),
  (32, ⟨[1, 57], [], b_Order_take_zero, [57, 1], []⟩),
  (33, ⟨[1, 57], [], b_Order_take_point, [57, 1], []⟩),
  (34, ⟨[1, 57], [], b_Order_take_scaling, [57, 1], []⟩),
  (35, ⟨[1, 57], [], b_Order_take_inserted, [57, 1], []⟩),
  (36, ⟨[1, 57, 23], [], b_Order_float_on, [23, 57, 1], []⟩),
  (37, ⟨[1], [], b_Order_may_float, [1], []⟩),
  (38, ⟨[1, 57], [], b_Order_take_sign, [57, 1], []⟩),
  (39, ⟨[1, 57], [], b_Order_take_money, [57, 1], []⟩),
  (40, ⟨[1, 57], [], b_Order_take_end, [57, 1], []⟩),
  (41, ⟨[1, 57], [], b_Order_take, [57, 1, 5], []⟩),
  (42, ⟨[1], [], b_Order_is_whole, [1], [88]⟩),
  (43, ⟨[1], [], b_Order_scale, [1], []⟩),
  (44, ⟨[41, 56], [], b_number_picture, [0, 11, 57, 91, 97, 56, 22, 41], [89, 90, 94, 95, 45, 30, 98]⟩),
  (45, ⟨[22], [], b_text_category, [56, 22], []⟩),
  (46, ⟨[41, 56], [], b_text_picture, [57, 56, 22, 41], [99, 90, 94, 95, 45, 30, 98, 100]⟩),
  (47, ⟨[41], [], b_read_picture, [105, 56, 41], [30, 101, 45, 106, 107, 108]⟩),
  (48, ⟨[], [], b_law_table, [109], []⟩),
  (49, ⟨[110, 4, 5, 6, 7, 8], [], b_law_is_let, [0, 8, 7, 6, 3, 110, 5, 4], []⟩),
  (50, ⟨[110, 4, 6], [], b_law_size, [6, 110, 4], [50]⟩),
  (51, ⟨[3, 4, 5, 6, 7, 8], [], b_law_shape, [8, 7, 6, 3, 5, 4], [111, 17]⟩),
  (52, ⟨[110, 3, 4, 5, 6, 7, 8], [], b_law_right, [115, 8, 7, 6, 3, 116, 97, 110, 15, 5, 2, 4], [112, 113, 114, 118, 119, 120, 121]⟩),
  (53, ⟨[122, 9], [], b_law_width, [122, 9], [17]⟩),
  (54, ⟨[34, 10], [], b_law_others_right, [12, 9, 10, 15, 34], [123, 121, 124, 125, 120, 35, 30, 126, 37, 127]⟩)]
noncomputable def clsT : List (Nat × ClsRec) := [
  (0, ⟨0, [0, 2, 3, 4, 5, 6, 7, 8, 9, 10, 11], [(14, 1), (117, 2)]⟩),
  (1, ⟨20, [41, 22, 0, 9, 10, 11, 2], [(14, 21)]⟩),
  (2, ⟨22, [5, 23, 43], []⟩),
  (3, ⟨28, [60, 61, 62, 63, 64, 65, 66, 67, 68, 69, 70, 5, 71, 72, 73, 74], [(9, 29), (77, 30), (81, 31), (82, 32), (83, 33), (84, 34), (87, 35), (78, 36), (79, 37), (85, 38), (86, 39), (80, 40), (92, 41), (93, 42), (10, 43)]⟩)]
noncomputable def gT : List (Nat × AV) := [
  (120, .fn 3),
  (121, .fn 4),
  (118, .fn 5),
  (19, .fn 6),
  (18, .fn 7),
  (28, .fn 8),
  (25, .fn 9),
  (26, .fn 10),
  (27, .fn 11),
  (111, .fn 12),
  (123, .fn 13),
  (124, .fn 14),
  (38, .fn 15),
  (36, .fn 16),
  (127, .fn 17),
  (125, .fn 18),
  (119, .fn 19),
  (51, .fn 23),
  (52, .fn 24),
  (106, .fn 25),
  (90, .fn 26),
  (94, .fn 27),
  (108, .fn 44),
  (100, .fn 45),
  (107, .fn 46),
  (129, .fn 47),
  (128, .fn 48),
  (113, .fn 49),
  (114, .fn 50),
  (112, .fn 51),
  (132, .fn 52),
  (135, .fn 53),
  (139, .fn 54),
  (29, .cls 0),
  (98, .cls 1),
  (55, .cls 2),
  (89, .cls 3),
  (17, .cls 1000),
  (30, .bi 0),
  (50, .bi 1),
  (35, .bi 2),
  (58, .bi 3),
  (42, .bi 4),
  (37, .bi 5),
  (126, .bi 6),
  (103, .bi 7),
  (104, .bi 8),
  (131, .bi 9),
  (134, .bi 10),
  (138, .bi 11),
  (20, .str [100,105,115,112,108,97,121,32,112,97,99,107,101,100,32,98,105,110,97,114,121,32,105,110,100,101,120]),
  (39, .int 4),
  (40, .int 9),
  (16, .int 18),
  (44, .str [65,66,80,83,86,88,90,57,48,47,44,46,43,45,42,36]),
  (99, .str [65,32,88,32,57,32,66,32,48,32,47]),
  (96, .str [57,32,80,32,83,32,86]),
  (59, .str [80,32,83,32,86]),
  (53, .str [83,32,86,32,46,32,67,82,32,68,66]),
  (49, .str [48,49,50,51,52,53,54,55,56,57]),
  (101, .int 30),
  (88, .int 18),
  (95, .int 9999)]
noncomputable def names : List String := [
  "category",
  "self",
  "size",
  "picture",
  "usage",
  "sign",
  "is_separate",
  "is_justified",
  "is_blank_zero",
  "digits",
  "scale",
  "is_signed",
  "clauses",
  "number",
  "told",
  "shape",
  "MOST_DIGITS_shapes",
  "DataFault",
  "packed_width",
  "binary_width",
  "USAGES",
  "split",
  "symbols",
  "count",
  ".0",
  "check_usage",
  "check_sign",
  "check_clauses",
  "size_for",
  "Shape",
  "len",
  "octets",
  "found",
  "rest",
  "units",
  "max",
  "figure_count",
  "abs",
  "numbered_shape",
  "INDEX_SIZE",
  "INDEX_DIGITS",
  "text",
  "tuple",
  "at",
  "SIGNS",
  "PictureFault",
  "find",
  "end",
  "figures",
  "FIGURES",
  "int",
  "sign_at",
  "count_at",
  "ALONE",
  "append",
  "Sign",
  "signs",
  "one",
  "sum",
  "LAID_NOWHERE",
  "seen",
  "is_plain",
  "point",
  "lead",
  "trail",
  "nines",
  "zero",
  "zeros",
  "floats",
  "behind",
  "is_late",
  "money",
  "last",
  "is_over",
  "is_inserted",
  "is_loose",
  "fault",
  "add_behind",
  "float_on",
  "may_float",
  "take_end",
  "take_nine",
  "take_zero",
  "take_point",
  "take_scaling",
  "take_sign",
  "take_money",
  "take_inserted",
  "MOST_DIGITS_pictures",
  "Order",
  "symbols_of",
  "order",
  "take",
  "is_whole",
  "size_of_symbols",
  "MOST_SIZE",
  "PLAIN_SIGNS",
  "plain",
  "Picture",
  "TEXT_SIGNS",
  "text_category",
  "MOST_TEXT",
  "join",
  "chr",
  "ord",
  "great",
  "signs_of",
  "text_picture",
  "number_picture",
  "rows",
  "row",
  "shape_of",
  "_law_shape",
  "_law_is_let",
  "_law_size",
  "due",
  "place",
  "sign_place",
  "unit_bound",
  "unsigned_shape",
  "is_numeric",
  "has_units",
  "ask",
  "group_shape",
  "text_shape",
  "index_shape",
  "str",
  "number_shape",
  "_law_table",
  "read_picture",
  "pictures",
  "enumerate",
  "_law_right",
  "flags",
  "range",
  "_law_width",
  "cell",
  "script",
  "list",
  "_law_others_right",
  "Exception",
  "__init__",
  "what"]
noncomputable abbrev f_Shape_init : Nat := 0
noncomputable abbrev f_Shape_told : Nat := 1
noncomputable abbrev f_Shape_sign_place : Nat := 2
noncomputable abbrev f_is_numeric : Nat := 3
noncomputable abbrev f_has_units : Nat := 4
noncomputable abbrev f_unit_bound : Nat := 5
noncomputable abbrev f_binary_width : Nat := 6
noncomputable abbrev f_packed_width : Nat := 7
noncomputable abbrev f_size_for : Nat := 8
noncomputable abbrev f_check_usage : Nat := 9
noncomputable abbrev f_check_sign : Nat := 10
noncomputable abbrev f_check_clauses : Nat := 11
noncomputable abbrev f_shape_of : Nat := 12
noncomputable abbrev f_group_shape : Nat := 13
noncomputable abbrev f_text_shape : Nat := 14
noncomputable abbrev f_numbered_shape : Nat := 15
noncomputable abbrev f_figure_count : Nat := 16
noncomputable abbrev f_number_shape : Nat := 17
noncomputable abbrev f_index_shape : Nat := 18
noncomputable abbrev f_unsigned_shape : Nat := 19
noncomputable abbrev f_Picture_init : Nat := 20
noncomputable abbrev f_Picture_told : Nat := 21
noncomputable abbrev f_Sign_init : Nat := 22
noncomputable abbrev f_sign_at : Nat := 23
noncomputable abbrev f_count_at : Nat := 24
noncomputable abbrev f_signs_of : Nat := 25
noncomputable abbrev f_symbols_of : Nat := 26
noncomputable abbrev f_size_of_symbols : Nat := 27
noncomputable abbrev f_Order_init : Nat := 28
noncomputable abbrev f_Order_digits : Nat := 29
noncomputable abbrev f_Order_add_behind : Nat := 30
noncomputable abbrev f_Order_take_nine : Nat := 31
noncomputable abbrev f_Order_take_zero : Nat := 32
noncomputable abbrev f_Order_take_point : Nat := 33
noncomputable abbrev f_Order_take_scaling : Nat := 34
noncomputable abbrev f_Order_take_inserted : Nat := 35
noncomputable abbrev f_Order_float_on : Nat := 36
noncomputable abbrev f_Order_may_float : Nat := 37
noncomputable abbrev f_Order_take_sign : Nat := 38
noncomputable abbrev f_Order_take_money : Nat := 39
noncomputable abbrev f_Order_take_end : Nat := 40
noncomputable abbrev f_Order_take : Nat := 41
noncomputable abbrev f_Order_is_whole : Nat := 42
noncomputable abbrev f_Order_scale : Nat := 43
noncomputable abbrev f_number_picture : Nat := 44
noncomputable abbrev f_text_category : Nat := 45
noncomputable abbrev f_text_picture : Nat := 46
noncomputable abbrev f_read_picture : Nat := 47
noncomputable abbrev f_law_table : Nat := 48
noncomputable abbrev f_law_is_let : Nat := 49
noncomputable abbrev f_law_size : Nat := 50
noncomputable abbrev f_law_shape : Nat := 51
noncomputable abbrev f_law_right : Nat := 52
noncomputable abbrev f_law_width : Nat := 53
noncomputable abbrev f_law_others_right : Nat := 54
noncomputable def lw_rows : PS :=
  (.asg 109 ⟨414,4,414,8⟩ (.call (.glb 128 ⟨414,11,414,21⟩) .nil ⟨414,11,414,23⟩) ⟨414,4,414,23⟩)
noncomputable def lw_pics : PS :=
  (.asg 130 ⟨415,4,415,12⟩ (.comp (.call (.glb 129 ⟨415,16,415,28⟩) (.cons (.sub (.loc 110 ⟨415,29,415,32⟩) (.cst (.int 0) ⟨415,33,415,34⟩) ⟨415,29,415,35⟩) .nil) ⟨415,16,415,36⟩) [(110,⟨415,41,415,44⟩)] none (.loc 109 ⟨415,48,415,52⟩) .nil [(24,0),(110,0),(129,1)] ⟨415,15,415,53⟩) ⟨415,4,415,53⟩)
noncomputable def lw_i1 : PE :=
  (.call (.glb 131 ⟨416,19,416,28⟩) (.cons (.loc 109 ⟨416,29,416,33⟩) .nil) ⟨416,19,416,34⟩)
noncomputable def lw_ia : PE :=
  (.tup (.cons (.cst (.str [100,105,115,112,108,97,121]) ⟨417,22,417,31⟩) (.cons (.cst (.str [112,97,99,107,101,100]) ⟨417,33,417,41⟩) (.cons (.cst (.str [98,105,110,97,114,121]) ⟨417,43,417,51⟩) (.cons (.cst (.str [105,110,100,101,120]) ⟨417,53,417,60⟩) .nil)))) ⟨417,21,417,61⟩)
noncomputable def lw_ba : PSs :=
  (.cons (.ifs (.un .Not (.call (.glb 132 ⟨418,19,418,29⟩) (.cons (.loc 110 ⟨418,30,418,33⟩) (.cons (.sub (.loc 130 ⟨418,35,418,43⟩) (.loc 43 ⟨418,44,418,46⟩) ⟨418,35,418,47⟩) (.cons (.loc 4 ⟨418,49,418,54⟩) (.cons (.cst (.str [116,114,97,105,108,105,110,103]) ⟨418,56,418,66⟩) (.cons (.cst (.bool false) ⟨418,68,418,73⟩) (.cons (.cst (.bool false) ⟨418,75,418,80⟩) (.cons (.cst (.bool false) ⟨418,82,418,87⟩) .nil))))))) ⟨418,19,418,88⟩) ⟨418,15,418,88⟩) (.cons (.ret (.cst (.bool false) ⟨419,23,419,28⟩) ⟨419,16,419,28⟩) .nil) .nil ⟨418,12,419,28⟩) .nil)
noncomputable def lw_ib : PE :=
  (.tup (.cons (.tup (.cons (.cst (.bool true) ⟨420,23,420,27⟩) (.cons (.cst (.bool false) ⟨420,29,420,34⟩) (.cons (.cst (.bool false) ⟨420,36,420,41⟩) .nil))) ⟨420,22,420,42⟩) (.cons (.tup (.cons (.cst (.bool false) ⟨420,45,420,50⟩) (.cons (.cst (.bool true) ⟨420,52,420,56⟩) (.cons (.cst (.bool false) ⟨420,58,420,63⟩) .nil))) ⟨420,44,420,64⟩) (.cons (.tup (.cons (.cst (.bool false) ⟨420,67,420,72⟩) (.cons (.cst (.bool false) ⟨420,74,420,79⟩) (.cons (.cst (.bool true) ⟨420,81,420,85⟩) .nil))) ⟨420,66,420,86⟩) .nil))) ⟨420,21,420,87⟩)
noncomputable def lw_bb : PSs :=
  (.cons (.ifs (.un .Not (.call (.glb 132 ⟨421,19,421,29⟩) (.cons (.loc 110 ⟨421,30,421,33⟩) (.cons (.sub (.loc 130 ⟨421,35,421,43⟩) (.loc 43 ⟨421,44,421,46⟩) ⟨421,35,421,47⟩) (.cons (.cst (.str [100,105,115,112,108,97,121]) ⟨421,49,421,58⟩) (.cons (.cst (.str [116,114,97,105,108,105,110,103]) ⟨421,60,421,70⟩) (.cons (.sub (.loc 133 ⟨421,72,421,77⟩) (.cst (.int 0) ⟨421,78,421,79⟩) ⟨421,72,421,80⟩) (.cons (.sub (.loc 133 ⟨421,82,421,87⟩) (.cst (.int 1) ⟨421,88,421,89⟩) ⟨421,82,421,90⟩) (.cons (.sub (.loc 133 ⟨421,92,421,97⟩) (.cst (.int 2) ⟨421,98,421,99⟩) ⟨421,92,421,100⟩) .nil))))))) ⟨421,19,421,101⟩) ⟨421,15,421,101⟩) (.cons (.ret (.cst (.bool false) ⟨422,23,422,28⟩) ⟨422,16,422,28⟩) .nil) .nil ⟨421,12,422,28⟩) .nil)
noncomputable def lw_c : PS :=
  (.ifs (.un .Not (.call (.glb 132 ⟨423,15,423,25⟩) (.cons (.loc 110 ⟨423,26,423,29⟩) (.cons (.sub (.loc 130 ⟨423,31,423,39⟩) (.loc 43 ⟨423,40,423,42⟩) ⟨423,31,423,43⟩) (.cons (.cst (.str [100,105,115,112,108,97,121]) ⟨423,45,423,54⟩) (.cons (.cst (.str [108,101,97,100,105,110,103]) ⟨423,56,423,65⟩) (.cons (.cst (.bool false) ⟨423,67,423,72⟩) (.cons (.cst (.bool false) ⟨423,74,423,79⟩) (.cons (.cst (.bool false) ⟨423,81,423,86⟩) .nil))))))) ⟨423,15,423,87⟩) ⟨423,11,423,87⟩) (.cons (.ret (.cst (.bool false) ⟨424,19,424,24⟩) ⟨424,12,424,24⟩) .nil) .nil ⟨423,8,424,24⟩)
noncomputable def lw_i2 : PE :=
  (.call (.glb 134 ⟨425,18,425,23⟩) (.cons (.cst (.int 21) ⟨425,24,425,26⟩) .nil) ⟨425,18,425,27⟩)
noncomputable def lw_b2 : PSs :=
  (.cons (.asg 115 ⟨426,8,426,11⟩ (.ife (.cmp (.loc 9 ⟨426,19,426,25⟩) .In (.tup (.cons (.cst (.int 0) ⟨426,30,426,31⟩) (.cons (.cst (.int 19) ⟨426,33,426,35⟩) (.cons (.cst (.int 20) ⟨426,37,426,39⟩) .nil))) ⟨426,29,426,40⟩) ⟨426,19,426,40⟩) (.cst (.int 0) ⟨426,14,426,15⟩) (.ife (.cmp (.loc 9 ⟨426,51,426,57⟩) .Lt (.cst (.int 5) ⟨426,60,426,61⟩) ⟨426,51,426,61⟩) (.cst (.int 2) ⟨426,46,426,47⟩) (.ife (.cmp (.loc 9 ⟨426,72,426,78⟩) .Lt (.cst (.int 10) ⟨426,81,426,83⟩) ⟨426,72,426,83⟩) (.cst (.int 4) ⟨426,67,426,68⟩) (.cst (.int 8) ⟨426,89,426,90⟩) ⟨426,67,426,90⟩) ⟨426,46,426,90⟩) ⟨426,14,426,90⟩) ⟨426,8,426,90⟩) (.cons (.ifs (.bop .Or (.cons (.cmp (.call (.glb 135 ⟨427,11,427,21⟩) (.cons (.glb 19 ⟨427,22,427,34⟩) (.cons (.loc 9 ⟨427,36,427,42⟩) .nil)) ⟨427,11,427,43⟩) .NotEq (.loc 115 ⟨427,47,427,50⟩) ⟨427,11,427,50⟩) (.cons (.cmp (.call (.glb 135 ⟨427,54,427,64⟩) (.cons (.glb 18 ⟨427,65,427,77⟩) (.cons (.loc 9 ⟨427,79,427,85⟩) .nil)) ⟨427,54,427,86⟩) .NotEq (.ife (.cmp (.loc 115 ⟨427,117,427,120⟩) .Gt (.cst (.int 0) ⟨427,123,427,124⟩) ⟨427,117,427,124⟩) (.call (.glb 50 ⟨427,91,427,94⟩) (.cons (.bin .FloorDiv (.bin .Add (.loc 9 ⟨427,96,427,102⟩) (.cst (.int 2) ⟨427,105,427,106⟩) ⟨427,96,427,106⟩) (.cst (.int 2) ⟨427,111,427,112⟩) ⟨427,95,427,112⟩) .nil) ⟨427,91,427,113⟩) (.cst (.int 0) ⟨427,130,427,131⟩) ⟨427,91,427,131⟩) ⟨427,54,427,132⟩) .nil)) ⟨427,11,427,132⟩) (.cons (.ret (.cst (.bool false) ⟨428,19,428,24⟩) ⟨428,12,428,24⟩) .nil) .nil ⟨427,8,428,24⟩) .nil))
noncomputable def lw_i3 : PE :=
  (.cst .none ⟨0,0,0,0⟩)
noncomputable def lw_t0 : PE :=
  (.call (.glb 37 ⟨430,15,430,18⟩) (.cons (.loc 136 ⟨430,19,430,23⟩) .nil) ⟨430,15,430,24⟩)
noncomputable def lw_t1 : PE :=
  (.tup (.cons (.call (.glb 50 ⟨431,20,431,23⟩) (.cons (.bin .Mod (.cel 33 ⟨431,24,431,28⟩) (.cst (.int 11) ⟨431,31,431,33⟩) ⟨431,24,431,33⟩) .nil) ⟨431,20,431,34⟩) (.cons (.bin .FloorDiv (.cel 33 ⟨431,36,431,40⟩) (.cst (.int 11) ⟨431,44,431,46⟩) ⟨431,36,431,46⟩) .nil)) ⟨431,19,431,47⟩)
noncomputable def lw_t2 : PE :=
  (.tup (.cons (.sub (.lst (.cons (.cst (.str [100,105,115,112,108,97,121]) ⟨432,24,432,33⟩) (.cons (.cst (.str [112,97,99,107,101,100]) ⟨432,35,432,43⟩) (.cons (.cst (.str [98,105,110,97,114,121]) ⟨432,45,432,53⟩) (.cons (.cst (.str [68,105,115,112,108,97,121]) ⟨432,55,432,64⟩) (.cons (.cst (.str []) ⟨432,66,432,68⟩) .nil))))) ⟨432,23,432,69⟩) (.call (.glb 50 ⟨432,70,432,73⟩) (.cons (.bin .Mod (.cel 33 ⟨432,74,432,78⟩) (.cst (.int 5) ⟨432,81,432,82⟩) ⟨432,74,432,82⟩) .nil) ⟨432,70,432,83⟩) ⟨432,23,432,84⟩) (.cons (.bin .FloorDiv (.cel 33 ⟨432,86,432,90⟩) (.cst (.int 5) ⟨432,94,432,95⟩) ⟨432,86,432,95⟩) .nil)) ⟨432,22,432,96⟩)
noncomputable def lw_t3 : PE :=
  (.tup (.cons (.sub (.lst (.cons (.cst (.str [108,101,97,100,105,110,103]) ⟨433,23,433,32⟩) (.cons (.cst (.str [116,114,97,105,108,105,110,103]) ⟨433,34,433,44⟩) (.cons (.cst (.str [108,101,102,116]) ⟨433,46,433,52⟩) .nil))) ⟨433,22,433,53⟩) (.call (.glb 50 ⟨433,54,433,57⟩) (.cons (.bin .Mod (.cel 33 ⟨433,58,433,62⟩) (.cst (.int 3) ⟨433,65,433,66⟩) ⟨433,58,433,66⟩) .nil) ⟨433,54,433,67⟩) ⟨433,22,433,68⟩) (.cons (.bin .FloorDiv (.cel 33 ⟨433,70,433,74⟩) (.cst (.int 3) ⟨433,78,433,79⟩) ⟨433,70,433,79⟩) .nil)) ⟨433,21,433,80⟩)
noncomputable def lw_t4i : PE :=
  (.tup (.cons (.cst (.int 1) ⟨434,64,434,65⟩) (.cons (.cst (.int 2) ⟨434,67,434,68⟩) (.cons (.cst (.int 4) ⟨434,70,434,71⟩) .nil))) ⟨434,63,434,72⟩)
noncomputable def lw_t4e : PE :=
  (.cmp (.call (.glb 50 ⟨434,24,434,27⟩) (.cons (.bin .Mod (.bin .FloorDiv (.cel 33 ⟨434,28,434,32⟩) (.loc 2 ⟨434,36,434,40⟩) ⟨434,28,434,40⟩) (.cst (.int 2) ⟨434,43,434,44⟩) ⟨434,28,434,44⟩) .nil) ⟨434,24,434,45⟩) .Eq (.cst (.int 1) ⟨434,49,434,50⟩) ⟨434,24,434,50⟩)
noncomputable def lw_t4r : PE :=
  (.bin .FloorDiv (.cel 33 ⟨434,75,434,79⟩) (.cst (.int 8) ⟨434,83,434,84⟩) ⟨434,75,434,84⟩)
noncomputable def lw_t5 : PS :=
  (.ifs (.un .Not (.call (.glb 132 ⟨435,15,435,25⟩) (.cons (.sub (.loc 109 ⟨435,26,435,30⟩) (.loc 43 ⟨435,31,435,33⟩) ⟨435,26,435,34⟩) (.cons (.sub (.loc 130 ⟨435,36,435,44⟩) (.loc 43 ⟨435,45,435,47⟩) ⟨435,36,435,48⟩) (.cons (.loc 4 ⟨435,50,435,55⟩) (.cons (.loc 5 ⟨435,57,435,61⟩) (.cons (.sub (.loc 133 ⟨435,63,435,68⟩) (.cst (.int 0) ⟨435,69,435,70⟩) ⟨435,63,435,71⟩) (.cons (.sub (.loc 133 ⟨435,73,435,78⟩) (.cst (.int 1) ⟨435,79,435,80⟩) ⟨435,73,435,81⟩) (.cons (.sub (.loc 133 ⟨435,83,435,88⟩) (.cst (.int 2) ⟨435,89,435,90⟩) ⟨435,83,435,91⟩) .nil))))))) ⟨435,15,435,92⟩) ⟨435,11,435,92⟩) (.cons (.ret (.cst (.bool false) ⟨436,19,436,24⟩) ⟨436,12,436,24⟩) .nil) .nil ⟨435,8,436,24⟩)
noncomputable def lw_t6a : PE :=
  (.call (.glb 50 ⟨437,24,437,27⟩) (.cons (.bin .Mod (.cel 33 ⟨437,28,437,32⟩) (.bin .Pow (.cst (.int 10) ⟨437,35,437,37⟩) (.cst (.int 19) ⟨437,41,437,43⟩) ⟨437,35,437,43⟩) ⟨437,28,437,43⟩) .nil) ⟨437,24,437,44⟩)
noncomputable def lw_t6b : PE :=
  (.call (.glb 50 ⟨437,46,437,49⟩) (.cons (.bin .Mod (.cel 33 ⟨437,50,437,54⟩) (.cst (.int 9) ⟨437,57,437,58⟩) ⟨437,50,437,58⟩) .nil) ⟨437,46,437,59⟩)
noncomputable def lw_t7a : PE :=
  (.ife (.cmp (.loc 136 ⟨438,42,438,46⟩) .GtE (.cst (.int 0) ⟨438,50,438,51⟩) ⟨438,42,438,51⟩) (.loc 34 ⟨438,33,438,38⟩) (.bin .Sub (.cst (.int 0) ⟨438,57,438,58⟩) (.loc 34 ⟨438,61,438,66⟩) ⟨438,57,438,66⟩) ⟨438,33,438,66⟩)
noncomputable def lw_t7b : PE :=
  (.loc 10 ⟨438,68,438,73⟩)
noncomputable def lw_t7r : PSs :=
  (.cons (.ret (.cst (.bool false) ⟨439,19,439,24⟩) ⟨439,12,439,24⟩) .nil)
noncomputable def lw_r0 : PEs :=
  (.cons (.cst (.int 0) ⟨440,29,440,30⟩) (.cons (.cst (.int 0) ⟨440,32,440,33⟩) .nil))
noncomputable def lw_r1 : PEs :=
  (.cons (.un .USub (.cst (.int 5) ⟨440,58,440,59⟩) ⟨440,57,440,59⟩) (.cons (.cst (.int 3) ⟨440,61,440,62⟩) .nil))
noncomputable def lw_r2 : PEs :=
  (.cons (.cst (.int 1000) ⟨440,86,440,90⟩) (.cons (.cst (.int 1) ⟨440,92,440,93⟩) .nil))
noncomputable def lw_locs : List Nat := [43, 136, 9, 115, 133, 130, 110, 109, 10, 137, 5, 34, 4]
noncomputable def lw_glbs : List Nat := [128, 131, 132, 134, 135, 19, 18, 50, 37, 138, 30, 139]
noncomputable abbrev v_script : Nat := 137
noncomputable abbrev v_rows : Nat := 109
noncomputable abbrev v_row : Nat := 110
noncomputable abbrev v_pictures : Nat := 130
noncomputable abbrev v_at : Nat := 43
noncomputable abbrev v_usage : Nat := 4
noncomputable abbrev v_flags : Nat := 133
noncomputable abbrev v_digits : Nat := 9
noncomputable abbrev v_due : Nat := 115
noncomputable abbrev v_cell : Nat := 136
noncomputable abbrev v_rest : Nat := 33
noncomputable abbrev v_sign : Nat := 5
noncomputable abbrev v_units : Nat := 34
noncomputable abbrev v_scale : Nat := 10
noncomputable abbrev v_size : Nat := 2
noncomputable abbrev v_enumerate : Nat := 131
noncomputable abbrev v_range : Nat := 134
noncomputable abbrev v_list : Nat := 138
noncomputable abbrev v_len : Nat := 30
noncomputable abbrev v_abs : Nat := 37
noncomputable abbrev v_int : Nat := 50
noncomputable abbrev v_law_others_right : Nat := 139
noncomputable abbrev v_law_right : Nat := 132
noncomputable def le_s1 : PS :=
  (.exp (.mcall (.glb 140 ⟨5,8,5,17⟩) 141 ⟨5,8,5,26⟩ (.cons (.loc 1 ⟨5,27,5,31⟩) (.cons (.loc 142 ⟨5,33,5,37⟩) .nil)) ⟨5,8,5,38⟩) ⟨5,8,5,38⟩)
noncomputable def le_s2 : PS :=
  (.asgA (.loc 1 ⟨6,8,6,12⟩) 142 ⟨6,8,6,17⟩ (.loc 142 ⟨6,20,6,24⟩) ⟨6,8,6,24⟩)
noncomputable def le_s3 : PS :=
  (.asgA (.loc 1 ⟨7,8,7,12⟩) 43 ⟨7,8,7,15⟩ (.loc 43 ⟨7,18,7,20⟩) ⟨7,8,7,20⟩)
noncomputable def le_fi : FI := ⟨[43, 1, 142], [140], 1, []⟩
noncomputable def lw_t6 : PS :=
  (.asgT [(34,⟨437,8,437,13⟩),(10,⟨437,15,437,20⟩)] ⟨437,8,437,20⟩ (.tup (.cons (.call (.glb 50 ⟨437,24,437,27⟩) (.cons (.bin .Mod (.cel 33 ⟨437,28,437,32⟩) (.bin .Pow (.cst (.int 10) ⟨437,35,437,37⟩) (.cst (.int 19) ⟨437,41,437,43⟩) ⟨437,35,437,43⟩) ⟨437,28,437,43⟩) .nil) ⟨437,24,437,44⟩) (.cons (.call (.glb 50 ⟨437,46,437,49⟩) (.cons (.bin .Mod (.cel 33 ⟨437,50,437,54⟩) (.cst (.int 9) ⟨437,57,437,58⟩) ⟨437,50,437,58⟩) .nil) ⟨437,46,437,59⟩) .nil)) ⟨437,23,437,60⟩) ⟨437,8,437,60⟩)
noncomputable abbrev v_self : Nat := 1
noncomputable abbrev v_what : Nat := 142
noncomputable abbrev v_Exception : Nat := 140
noncomputable abbrev v_init : Nat := 141
noncomputable abbrev n_split : Nat := 21
noncomputable abbrev n_join : Nat := 102
noncomputable abbrev n_find : Nat := 46
noncomputable abbrev n_append : Nat := 54
end Mine
end

section
set_option maxRecDepth 100000
namespace Mine
open PySem PySem.W PyProof.Rows PySem.Calls PySem.SeqAt
noncomputable def fAl : List (Nat × Addr) := [(0, 82), (1, 89), (2, 96), (3, 110), (4, 117), (5, 124), (6, 131), (7, 138), (8, 145), (9, 152), (10, 159), (11, 164), (12, 172), (13, 179), (14, 186), (15, 193), (16, 200), (17, 207), (18, 214), (19, 221), (20, 235), (21, 242), (22, 268), (23, 289), (24, 294), (25, 301), (26, 308), (27, 313), (28, 327), (29, 334), (30, 341), (31, 348), (32, 355), (33, 362), (34, 369), (35, 376), (36, 383), (37, 390), (38, 397), (39, 404), (40, 411), (41, 418), (42, 425), (43, 432), (44, 444), (45, 449), (46, 456), (47, 461), (48, 468), (49, 475), (50, 482), (51, 489), (52, 496), (53, 503), (54, 510)]
noncomputable def cAl : List (Nat × Addr) := [(0, 99), (1, 250), (2, 278), (3, 435), (1000, 65)]
noncomputable def fAd (k : Nat) : Addr := (aget fAl k).getD 110
noncomputable def cAd (k : Nat) : Addr := (aget cAl k).getD 99
noncomputable def nmIn : List String → Nat → Nat → PySem.Str
  | [], _, i => ⟨#[1114200 + i]⟩
  | s :: r, n, i => match n with | 0 => Str.ofString s | n + 1 => nmIn r n i
noncomputable def nm (i : Nat) : PySem.Str := nmIn names i i
noncomputable def obOf (P : Params) (a : Addr) : Obj := ((hd.heap_39 P).lookup a).getD { cls := .none, data := .plain }
noncomputable def fdOf (P : Params) (a : Addr) : FuncData := match (obOf P a).data with | .func fd => fd | _ => default
structure FnP (P : Params) (a : Addr) (R : FnRec) : Prop where
  lk : (hd.heap_39 P).lookup a = some (obOf P a)
  dt : (obOf P a).data = .func (fdOf P a)
  body : (fdOf P a).body = .stmts (toSs nm R.body)
  code : codeIn (hd.heap_39 P) (fdOf P a).code (fdOf P a).qualname = true
  co : (fdOf P a).scope.isCoroutine = false
  gen : (fdOf P a).scope.isGenerator = false
  kind : (fdOf P a).scope.kind = .function
  cell : ((fdOf P a).scope.names.all fun x => x.2 != .cell) = true
  locs : (R.locs.all fun x => (fdOf P a).scope.names.lookup (nm x) == some .local) = true
  glbs : (R.glbs.all fun x => (fdOf P a).scope.names.lookup (nm x) == some .globalImplicit) = true
  gl : (fdOf P a).globals = mainGlobals
  bu : (fdOf P a).builtins = builtinsNs
  par : (R.params.all (nelem R.locs)) = true
  keep : keepIn (hd.heap_39 P) (.ref a) = true
  fn : isFn (hd.heap_39 P) (.ref a) = true
noncomputable def R_0 : FnRec := (aget fnT 0).getD ⟨[], [], .nil, [], []⟩
theorem fnP_0 (P : Params) : FnP P 82 R_0 :=
  ⟨by kernel_rfl, by kernel_rfl, by kernel_rfl, by kernel_rfl, by kernel_rfl, by kernel_rfl, by kernel_rfl, by kernel_rfl, by kernel_rfl, by kernel_rfl, by kernel_rfl, by kernel_rfl, by kernel_rfl, by kernel_rfl, by kernel_rfl⟩
noncomputable def R_1 : FnRec := (aget fnT 1).getD ⟨[], [], .nil, [], []⟩
theorem fnP_1 (P : Params) : FnP P 89 R_1 :=
  ⟨by kernel_rfl, by kernel_rfl, by kernel_rfl, by kernel_rfl, by kernel_rfl, by kernel_rfl, by kernel_rfl, by kernel_rfl, by kernel_rfl, by kernel_rfl, by kernel_rfl, by kernel_rfl, by kernel_rfl, by kernel_rfl, by kernel_rfl⟩
noncomputable def R_2 : FnRec := (aget fnT 2).getD ⟨[], [], .nil, [], []⟩
theorem fnP_2 (P : Params) : FnP P 96 R_2 :=
  ⟨by kernel_rfl, by kernel_rfl, by kernel_rfl, by kernel_rfl, by kernel_rfl, by kernel_rfl, by kernel_rfl, by kernel_rfl, by kernel_rfl, by kernel_rfl, by kernel_rfl, by kernel_rfl, by kernel_rfl, by kernel_rfl, by kernel_rfl⟩
noncomputable def R_3 : FnRec := (aget fnT 3).getD ⟨[], [], .nil, [], []⟩
theorem fnP_3 (P : Params) : FnP P 110 R_3 :=
  ⟨by kernel_rfl, by kernel_rfl, by kernel_rfl, by kernel_rfl, by kernel_rfl, by kernel_rfl, by kernel_rfl, by kernel_rfl, by kernel_rfl, by kernel_rfl, by kernel_rfl, by kernel_rfl, by kernel_rfl, by kernel_rfl, by kernel_rfl⟩
noncomputable def R_4 : FnRec := (aget fnT 4).getD ⟨[], [], .nil, [], []⟩
theorem fnP_4 (P : Params) : FnP P 117 R_4 :=
  ⟨by kernel_rfl, by kernel_rfl, by kernel_rfl, by kernel_rfl, by kernel_rfl, by kernel_rfl, by kernel_rfl, by kernel_rfl, by kernel_rfl, by kernel_rfl, by kernel_rfl, by kernel_rfl, by kernel_rfl, by kernel_rfl, by kernel_rfl⟩
noncomputable def R_5 : FnRec := (aget fnT 5).getD ⟨[], [], .nil, [], []⟩
theorem fnP_5 (P : Params) : FnP P 124 R_5 :=
  ⟨by kernel_rfl, by kernel_rfl, by kernel_rfl, by kernel_rfl, by kernel_rfl, by kernel_rfl, by kernel_rfl, by kernel_rfl, by kernel_rfl, by kernel_rfl, by kernel_rfl, by kernel_rfl, by kernel_rfl, by kernel_rfl, by kernel_rfl⟩
noncomputable def R_6 : FnRec := (aget fnT 6).getD ⟨[], [], .nil, [], []⟩
theorem fnP_6 (P : Params) : FnP P 131 R_6 :=
  ⟨by kernel_rfl, by kernel_rfl, by kernel_rfl, by kernel_rfl, by kernel_rfl, by kernel_rfl, by kernel_rfl, by kernel_rfl, by kernel_rfl, by kernel_rfl, by kernel_rfl, by kernel_rfl, by kernel_rfl, by kernel_rfl, by kernel_rfl⟩
noncomputable def R_7 : FnRec := (aget fnT 7).getD ⟨[], [], .nil, [], []⟩
theorem fnP_7 (P : Params) : FnP P 138 R_7 :=
  ⟨by kernel_rfl, by kernel_rfl, by kernel_rfl, by kernel_rfl, by kernel_rfl, by kernel_rfl, by kernel_rfl, by kernel_rfl, by kernel_rfl, by kernel_rfl, by kernel_rfl, by kernel_rfl, by kernel_rfl, by kernel_rfl, by kernel_rfl⟩
noncomputable def R_8 : FnRec := (aget fnT 8).getD ⟨[], [], .nil, [], []⟩
theorem fnP_8 (P : Params) : FnP P 145 R_8 :=
  ⟨by kernel_rfl, by kernel_rfl, by kernel_rfl, by kernel_rfl, by kernel_rfl, by kernel_rfl, by kernel_rfl, by kernel_rfl, by kernel_rfl, by kernel_rfl, by kernel_rfl, by kernel_rfl, by kernel_rfl, by kernel_rfl, by kernel_rfl⟩
noncomputable def R_9 : FnRec := (aget fnT 9).getD ⟨[], [], .nil, [], []⟩
theorem fnP_9 (P : Params) : FnP P 152 R_9 :=
  ⟨by kernel_rfl, by kernel_rfl, by kernel_rfl, by kernel_rfl, by kernel_rfl, by kernel_rfl, by kernel_rfl, by kernel_rfl, by kernel_rfl, by kernel_rfl, by kernel_rfl, by kernel_rfl, by kernel_rfl, by kernel_rfl, by kernel_rfl⟩
noncomputable def R_10 : FnRec := (aget fnT 10).getD ⟨[], [], .nil, [], []⟩
theorem fnP_10 (P : Params) : FnP P 159 R_10 :=
  ⟨by kernel_rfl, by kernel_rfl, by kernel_rfl, by kernel_rfl, by kernel_rfl, by kernel_rfl, by kernel_rfl, by kernel_rfl, by kernel_rfl, by kernel_rfl, by kernel_rfl, by kernel_rfl, by kernel_rfl, by kernel_rfl, by kernel_rfl⟩
noncomputable def R_11 : FnRec := (aget fnT 11).getD ⟨[], [], .nil, [], []⟩
theorem fnP_11 (P : Params) : FnP P 164 R_11 :=
  ⟨by kernel_rfl, by kernel_rfl, by kernel_rfl, by kernel_rfl, by kernel_rfl, by kernel_rfl, by kernel_rfl, by kernel_rfl, by kernel_rfl, by kernel_rfl, by kernel_rfl, by kernel_rfl, by kernel_rfl, by kernel_rfl, by kernel_rfl⟩
noncomputable def R_12 : FnRec := (aget fnT 12).getD ⟨[], [], .nil, [], []⟩
theorem fnP_12 (P : Params) : FnP P 172 R_12 :=
  ⟨by kernel_rfl, by kernel_rfl, by kernel_rfl, by kernel_rfl, by kernel_rfl, by kernel_rfl, by kernel_rfl, by kernel_rfl, by kernel_rfl, by kernel_rfl, by kernel_rfl, by kernel_rfl, by kernel_rfl, by kernel_rfl, by kernel_rfl⟩
noncomputable def R_13 : FnRec := (aget fnT 13).getD ⟨[], [], .nil, [], []⟩
theorem fnP_13 (P : Params) : FnP P 179 R_13 :=
  ⟨by kernel_rfl, by kernel_rfl, by kernel_rfl, by kernel_rfl, by kernel_rfl, by kernel_rfl, by kernel_rfl, by kernel_rfl, by kernel_rfl, by kernel_rfl, by kernel_rfl, by kernel_rfl, by kernel_rfl, by kernel_rfl, by kernel_rfl⟩
noncomputable def R_14 : FnRec := (aget fnT 14).getD ⟨[], [], .nil, [], []⟩
theorem fnP_14 (P : Params) : FnP P 186 R_14 :=
  ⟨by kernel_rfl, by kernel_rfl, by kernel_rfl, by kernel_rfl, by kernel_rfl, by kernel_rfl, by kernel_rfl, by kernel_rfl, by kernel_rfl, by kernel_rfl, by kernel_rfl, by kernel_rfl, by kernel_rfl, by kernel_rfl, by kernel_rfl⟩
noncomputable def R_15 : FnRec := (aget fnT 15).getD ⟨[], [], .nil, [], []⟩
theorem fnP_15 (P : Params) : FnP P 193 R_15 :=
  ⟨by kernel_rfl, by kernel_rfl, by kernel_rfl, by kernel_rfl, by kernel_rfl, by kernel_rfl, by kernel_rfl, by kernel_rfl, by kernel_rfl, by kernel_rfl, by kernel_rfl, by kernel_rfl, by kernel_rfl, by kernel_rfl, by kernel_rfl⟩
noncomputable def R_16 : FnRec := (aget fnT 16).getD ⟨[], [], .nil, [], []⟩
theorem fnP_16 (P : Params) : FnP P 200 R_16 :=
  ⟨by kernel_rfl, by kernel_rfl, by kernel_rfl, by kernel_rfl, by kernel_rfl, by kernel_rfl, by kernel_rfl, by kernel_rfl, by kernel_rfl, by kernel_rfl, by kernel_rfl, by kernel_rfl, by kernel_rfl, by kernel_rfl, by kernel_rfl⟩
noncomputable def R_17 : FnRec := (aget fnT 17).getD ⟨[], [], .nil, [], []⟩
theorem fnP_17 (P : Params) : FnP P 207 R_17 :=
  ⟨by kernel_rfl, by kernel_rfl, by kernel_rfl, by kernel_rfl, by kernel_rfl, by kernel_rfl, by kernel_rfl, by kernel_rfl, by kernel_rfl, by kernel_rfl, by kernel_rfl, by kernel_rfl, by kernel_rfl, by kernel_rfl, by kernel_rfl⟩
noncomputable def R_18 : FnRec := (aget fnT 18).getD ⟨[], [], .nil, [], []⟩
theorem fnP_18 (P : Params) : FnP P 214 R_18 :=
  ⟨by kernel_rfl, by kernel_rfl, by kernel_rfl, by kernel_rfl, by kernel_rfl, by kernel_rfl, by kernel_rfl, by kernel_rfl, by kernel_rfl, by kernel_rfl, by kernel_rfl, by kernel_rfl, by kernel_rfl, by kernel_rfl, by kernel_rfl⟩
noncomputable def R_19 : FnRec := (aget fnT 19).getD ⟨[], [], .nil, [], []⟩
theorem fnP_19 (P : Params) : FnP P 221 R_19 :=
  ⟨by kernel_rfl, by kernel_rfl, by kernel_rfl, by kernel_rfl, by kernel_rfl, by kernel_rfl, by kernel_rfl, by kernel_rfl, by kernel_rfl, by kernel_rfl, by kernel_rfl, by kernel_rfl, by kernel_rfl, by kernel_rfl, by kernel_rfl⟩
noncomputable def R_20 : FnRec := (aget fnT 20).getD ⟨[], [], .nil, [], []⟩
theorem fnP_20 (P : Params) : FnP P 235 R_20 :=
  ⟨by kernel_rfl, by kernel_rfl, by kernel_rfl, by kernel_rfl, by kernel_rfl, by kernel_rfl, by kernel_rfl, by kernel_rfl, by kernel_rfl, by kernel_rfl, by kernel_rfl, by kernel_rfl, by kernel_rfl, by kernel_rfl, by kernel_rfl⟩
noncomputable def R_21 : FnRec := (aget fnT 21).getD ⟨[], [], .nil, [], []⟩
theorem fnP_21 (P : Params) : FnP P 242 R_21 :=
  ⟨by kernel_rfl, by kernel_rfl, by kernel_rfl, by kernel_rfl, by kernel_rfl, by kernel_rfl, by kernel_rfl, by kernel_rfl, by kernel_rfl, by kernel_rfl, by kernel_rfl, by kernel_rfl, by kernel_rfl, by kernel_rfl, by kernel_rfl⟩
noncomputable def R_22 : FnRec := (aget fnT 22).getD ⟨[], [], .nil, [], []⟩
theorem fnP_22 (P : Params) : FnP P 268 R_22 :=
  ⟨by kernel_rfl, by kernel_rfl, by kernel_rfl, by kernel_rfl, by kernel_rfl, by kernel_rfl, by kernel_rfl, by kernel_rfl, by kernel_rfl, by kernel_rfl, by kernel_rfl, by kernel_rfl, by kernel_rfl, by kernel_rfl, by kernel_rfl⟩
noncomputable def R_23 : FnRec := (aget fnT 23).getD ⟨[], [], .nil, [], []⟩
theorem fnP_23 (P : Params) : FnP P 289 R_23 :=
  ⟨by kernel_rfl, by kernel_rfl, by kernel_rfl, by kernel_rfl, by kernel_rfl, by kernel_rfl, by kernel_rfl, by kernel_rfl, by kernel_rfl, by kernel_rfl, by kernel_rfl, by kernel_rfl, by kernel_rfl, by kernel_rfl, by kernel_rfl⟩
noncomputable def R_24 : FnRec := (aget fnT 24).getD ⟨[], [], .nil, [], []⟩
theorem fnP_24 (P : Params) : FnP P 294 R_24 :=
  ⟨by kernel_rfl, by kernel_rfl, by kernel_rfl, by kernel_rfl, by kernel_rfl, by kernel_rfl, by kernel_rfl, by kernel_rfl, by kernel_rfl, by kernel_rfl, by kernel_rfl, by kernel_rfl, by kernel_rfl, by kernel_rfl, by kernel_rfl⟩
noncomputable def R_25 : FnRec := (aget fnT 25).getD ⟨[], [], .nil, [], []⟩
theorem fnP_25 (P : Params) : FnP P 301 R_25 :=
  ⟨by kernel_rfl, by kernel_rfl, by kernel_rfl, by kernel_rfl, by kernel_rfl, by kernel_rfl, by kernel_rfl, by kernel_rfl, by kernel_rfl, by kernel_rfl, by kernel_rfl, by kernel_rfl, by kernel_rfl, by kernel_rfl, by kernel_rfl⟩
noncomputable def R_26 : FnRec := (aget fnT 26).getD ⟨[], [], .nil, [], []⟩
theorem fnP_26 (P : Params) : FnP P 308 R_26 :=
  ⟨by kernel_rfl, by kernel_rfl, by kernel_rfl, by kernel_rfl, by kernel_rfl, by kernel_rfl, by kernel_rfl, by kernel_rfl, by kernel_rfl, by kernel_rfl, by kernel_rfl, by kernel_rfl, by kernel_rfl, by kernel_rfl, by kernel_rfl⟩
noncomputable def R_27 : FnRec := (aget fnT 27).getD ⟨[], [], .nil, [], []⟩
theorem fnP_27 (P : Params) : FnP P 313 R_27 :=
  ⟨by kernel_rfl, by kernel_rfl, by kernel_rfl, by kernel_rfl, by kernel_rfl, by kernel_rfl, by kernel_rfl, by kernel_rfl, by kernel_rfl, by kernel_rfl, by kernel_rfl, by kernel_rfl, by kernel_rfl, by kernel_rfl, by kernel_rfl⟩
noncomputable def R_28 : FnRec := (aget fnT 28).getD ⟨[], [], .nil, [], []⟩
theorem fnP_28 (P : Params) : FnP P 327 R_28 :=
  ⟨by kernel_rfl, by kernel_rfl, by kernel_rfl, by kernel_rfl, by kernel_rfl, by kernel_rfl, by kernel_rfl, by kernel_rfl, by kernel_rfl, by kernel_rfl, by kernel_rfl, by kernel_rfl, by kernel_rfl, by kernel_rfl, by kernel_rfl⟩
noncomputable def R_29 : FnRec := (aget fnT 29).getD ⟨[], [], .nil, [], []⟩
theorem fnP_29 (P : Params) : FnP P 334 R_29 :=
  ⟨by kernel_rfl, by kernel_rfl, by kernel_rfl, by kernel_rfl, by kernel_rfl, by kernel_rfl, by kernel_rfl, by kernel_rfl, by kernel_rfl, by kernel_rfl, by kernel_rfl, by kernel_rfl, by kernel_rfl, by kernel_rfl, by kernel_rfl⟩
noncomputable def R_30 : FnRec := (aget fnT 30).getD ⟨[], [], .nil, [], []⟩
theorem fnP_30 (P : Params) : FnP P 341 R_30 :=
  ⟨by kernel_rfl, by kernel_rfl, by kernel_rfl, by kernel_rfl, by kernel_rfl, by kernel_rfl, by kernel_rfl, by kernel_rfl, by kernel_rfl, by kernel_rfl, by kernel_rfl, by kernel_rfl, by kernel_rfl, by kernel_rfl, by kernel_rfl⟩
noncomputable def R_31 : FnRec := (aget fnT 31).getD ⟨[], [], .nil, [], []⟩
theorem fnP_31 (P : Params) : FnP P 348 R_31 :=
  ⟨by kernel_rfl, by kernel_rfl, by kernel_rfl, by kernel_rfl, by kernel_rfl, by kernel_rfl, by kernel_rfl, by kernel_rfl, by kernel_rfl, by kernel_rfl, by kernel_rfl, by kernel_rfl, by kernel_rfl, by kernel_rfl, by kernel_rfl⟩
noncomputable def R_32 : FnRec := (aget fnT 32).getD ⟨[], [], .nil, [], []⟩
theorem fnP_32 (P : Params) : FnP P 355 R_32 :=
  ⟨by kernel_rfl, by kernel_rfl, by kernel_rfl, by kernel_rfl, by kernel_rfl, by kernel_rfl, by kernel_rfl, by kernel_rfl, by kernel_rfl, by kernel_rfl, by kernel_rfl, by kernel_rfl, by kernel_rfl, by kernel_rfl, by kernel_rfl⟩
noncomputable def R_33 : FnRec := (aget fnT 33).getD ⟨[], [], .nil, [], []⟩
theorem fnP_33 (P : Params) : FnP P 362 R_33 :=
  ⟨by kernel_rfl, by kernel_rfl, by kernel_rfl, by kernel_rfl, by kernel_rfl, by kernel_rfl, by kernel_rfl, by kernel_rfl, by kernel_rfl, by kernel_rfl, by kernel_rfl, by kernel_rfl, by kernel_rfl, by kernel_rfl, by kernel_rfl⟩
noncomputable def R_34 : FnRec := (aget fnT 34).getD ⟨[], [], .nil, [], []⟩
theorem fnP_34 (P : Params) : FnP P 369 R_34 :=
  ⟨by kernel_rfl, by kernel_rfl, by kernel_rfl, by kernel_rfl, by kernel_rfl, by kernel_rfl, by kernel_rfl, by kernel_rfl, by kernel_rfl, by kernel_rfl, by kernel_rfl, by kernel_rfl, by kernel_rfl, by kernel_rfl, by kernel_rfl⟩
noncomputable def R_35 : FnRec := (aget fnT 35).getD ⟨[], [], .nil, [], []⟩
theorem fnP_35 (P : Params) : FnP P 376 R_35 :=
  ⟨by kernel_rfl, by kernel_rfl, by kernel_rfl, by kernel_rfl, by kernel_rfl, by kernel_rfl, by kernel_rfl, by kernel_rfl, by kernel_rfl, by kernel_rfl, by kernel_rfl, by kernel_rfl, by kernel_rfl, by kernel_rfl, by kernel_rfl⟩
noncomputable def R_36 : FnRec := (aget fnT 36).getD ⟨[], [], .nil, [], []⟩
theorem fnP_36 (P : Params) : FnP P 383 R_36 :=
  ⟨by kernel_rfl, by kernel_rfl, by kernel_rfl, by kernel_rfl, by kernel_rfl, by kernel_rfl, by kernel_rfl, by kernel_rfl, by kernel_rfl, by kernel_rfl, by kernel_rfl, by kernel_rfl, by kernel_rfl, by kernel_rfl, by kernel_rfl⟩
noncomputable def R_37 : FnRec := (aget fnT 37).getD ⟨[], [], .nil, [], []⟩
theorem fnP_37 (P : Params) : FnP P 390 R_37 :=
  ⟨by kernel_rfl, by kernel_rfl, by kernel_rfl, by kernel_rfl, by kernel_rfl, by kernel_rfl, by kernel_rfl, by kernel_rfl, by kernel_rfl, by kernel_rfl, by kernel_rfl, by kernel_rfl, by kernel_rfl, by kernel_rfl, by kernel_rfl⟩
noncomputable def R_38 : FnRec := (aget fnT 38).getD ⟨[], [], .nil, [], []⟩
theorem fnP_38 (P : Params) : FnP P 397 R_38 :=
  ⟨by kernel_rfl, by kernel_rfl, by kernel_rfl, by kernel_rfl, by kernel_rfl, by kernel_rfl, by kernel_rfl, by kernel_rfl, by kernel_rfl, by kernel_rfl, by kernel_rfl, by kernel_rfl, by kernel_rfl, by kernel_rfl, by kernel_rfl⟩
noncomputable def R_39 : FnRec := (aget fnT 39).getD ⟨[], [], .nil, [], []⟩
theorem fnP_39 (P : Params) : FnP P 404 R_39 :=
  ⟨by kernel_rfl, by kernel_rfl, by kernel_rfl, by kernel_rfl, by kernel_rfl, by kernel_rfl, by kernel_rfl, by kernel_rfl, by kernel_rfl, by kernel_rfl, by kernel_rfl, by kernel_rfl, by kernel_rfl, by kernel_rfl, by kernel_rfl⟩
noncomputable def R_40 : FnRec := (aget fnT 40).getD ⟨[], [], .nil, [], []⟩
theorem fnP_40 (P : Params) : FnP P 411 R_40 :=
  ⟨by kernel_rfl, by kernel_rfl, by kernel_rfl, by kernel_rfl, by kernel_rfl, by kernel_rfl, by kernel_rfl, by kernel_rfl, by kernel_rfl, by kernel_rfl, by kernel_rfl, by kernel_rfl, by kernel_rfl, by kernel_rfl, by kernel_rfl⟩
noncomputable def R_41 : FnRec := (aget fnT 41).getD ⟨[], [], .nil, [], []⟩
theorem fnP_41 (P : Params) : FnP P 418 R_41 :=
  ⟨by kernel_rfl, by kernel_rfl, by kernel_rfl, by kernel_rfl, by kernel_rfl, by kernel_rfl, by kernel_rfl, by kernel_rfl, by kernel_rfl, by kernel_rfl, by kernel_rfl, by kernel_rfl, by kernel_rfl, by kernel_rfl, by kernel_rfl⟩
noncomputable def R_42 : FnRec := (aget fnT 42).getD ⟨[], [], .nil, [], []⟩
theorem fnP_42 (P : Params) : FnP P 425 R_42 :=
  ⟨by kernel_rfl, by kernel_rfl, by kernel_rfl, by kernel_rfl, by kernel_rfl, by kernel_rfl, by kernel_rfl, by kernel_rfl, by kernel_rfl, by kernel_rfl, by kernel_rfl, by kernel_rfl, by kernel_rfl, by kernel_rfl, by kernel_rfl⟩
noncomputable def R_43 : FnRec := (aget fnT 43).getD ⟨[], [], .nil, [], []⟩
theorem fnP_43 (P : Params) : FnP P 432 R_43 :=
  ⟨by kernel_rfl, by kernel_rfl, by kernel_rfl, by kernel_rfl, by kernel_rfl, by kernel_rfl, by kernel_rfl, by kernel_rfl, by kernel_rfl, by kernel_rfl, by kernel_rfl, by kernel_rfl, by kernel_rfl, by kernel_rfl, by kernel_rfl⟩
noncomputable def R_44 : FnRec := (aget fnT 44).getD ⟨[], [], .nil, [], []⟩
theorem fnP_44 (P : Params) : FnP P 444 R_44 :=
  ⟨by kernel_rfl, by kernel_rfl, by kernel_rfl, by kernel_rfl, by kernel_rfl, by kernel_rfl, by kernel_rfl, by kernel_rfl, by kernel_rfl, by kernel_rfl, by kernel_rfl, by kernel_rfl, by kernel_rfl, by kernel_rfl, by kernel_rfl⟩
noncomputable def R_45 : FnRec := (aget fnT 45).getD ⟨[], [], .nil, [], []⟩
theorem fnP_45 (P : Params) : FnP P 449 R_45 :=
  ⟨by kernel_rfl, by kernel_rfl, by kernel_rfl, by kernel_rfl, by kernel_rfl, by kernel_rfl, by kernel_rfl, by kernel_rfl, by kernel_rfl, by kernel_rfl, by kernel_rfl, by kernel_rfl, by kernel_rfl, by kernel_rfl, by kernel_rfl⟩
noncomputable def R_46 : FnRec := (aget fnT 46).getD ⟨[], [], .nil, [], []⟩
theorem fnP_46 (P : Params) : FnP P 456 R_46 :=
  ⟨by kernel_rfl, by kernel_rfl, by kernel_rfl, by kernel_rfl, by kernel_rfl, by kernel_rfl, by kernel_rfl, by kernel_rfl, by kernel_rfl, by kernel_rfl, by kernel_rfl, by kernel_rfl, by kernel_rfl, by kernel_rfl, by kernel_rfl⟩
noncomputable def R_47 : FnRec := (aget fnT 47).getD ⟨[], [], .nil, [], []⟩
theorem fnP_47 (P : Params) : FnP P 461 R_47 :=
  ⟨by kernel_rfl, by kernel_rfl, by kernel_rfl, by kernel_rfl, by kernel_rfl, by kernel_rfl, by kernel_rfl, by kernel_rfl, by kernel_rfl, by kernel_rfl, by kernel_rfl, by kernel_rfl, by kernel_rfl, by kernel_rfl, by kernel_rfl⟩
noncomputable def R_48 : FnRec := (aget fnT 48).getD ⟨[], [], .nil, [], []⟩
theorem fnP_48 (P : Params) : FnP P 468 R_48 :=
  ⟨by kernel_rfl, by kernel_rfl, by kernel_rfl, by kernel_rfl, by kernel_rfl, by kernel_rfl, by kernel_rfl, by kernel_rfl, by kernel_rfl, by kernel_rfl, by kernel_rfl, by kernel_rfl, by kernel_rfl, by kernel_rfl, by kernel_rfl⟩
noncomputable def R_49 : FnRec := (aget fnT 49).getD ⟨[], [], .nil, [], []⟩
theorem fnP_49 (P : Params) : FnP P 475 R_49 :=
  ⟨by kernel_rfl, by kernel_rfl, by kernel_rfl, by kernel_rfl, by kernel_rfl, by kernel_rfl, by kernel_rfl, by kernel_rfl, by kernel_rfl, by kernel_rfl, by kernel_rfl, by kernel_rfl, by kernel_rfl, by kernel_rfl, by kernel_rfl⟩
noncomputable def R_50 : FnRec := (aget fnT 50).getD ⟨[], [], .nil, [], []⟩
theorem fnP_50 (P : Params) : FnP P 482 R_50 :=
  ⟨by kernel_rfl, by kernel_rfl, by kernel_rfl, by kernel_rfl, by kernel_rfl, by kernel_rfl, by kernel_rfl, by kernel_rfl, by kernel_rfl, by kernel_rfl, by kernel_rfl, by kernel_rfl, by kernel_rfl, by kernel_rfl, by kernel_rfl⟩
noncomputable def R_51 : FnRec := (aget fnT 51).getD ⟨[], [], .nil, [], []⟩
theorem fnP_51 (P : Params) : FnP P 489 R_51 :=
  ⟨by kernel_rfl, by kernel_rfl, by kernel_rfl, by kernel_rfl, by kernel_rfl, by kernel_rfl, by kernel_rfl, by kernel_rfl, by kernel_rfl, by kernel_rfl, by kernel_rfl, by kernel_rfl, by kernel_rfl, by kernel_rfl, by kernel_rfl⟩
noncomputable def R_52 : FnRec := (aget fnT 52).getD ⟨[], [], .nil, [], []⟩
theorem fnP_52 (P : Params) : FnP P 496 R_52 :=
  ⟨by kernel_rfl, by kernel_rfl, by kernel_rfl, by kernel_rfl, by kernel_rfl, by kernel_rfl, by kernel_rfl, by kernel_rfl, by kernel_rfl, by kernel_rfl, by kernel_rfl, by kernel_rfl, by kernel_rfl, by kernel_rfl, by kernel_rfl⟩
noncomputable def R_53 : FnRec := (aget fnT 53).getD ⟨[], [], .nil, [], []⟩
theorem fnP_53 (P : Params) : FnP P 503 R_53 :=
  ⟨by kernel_rfl, by kernel_rfl, by kernel_rfl, by kernel_rfl, by kernel_rfl, by kernel_rfl, by kernel_rfl, by kernel_rfl, by kernel_rfl, by kernel_rfl, by kernel_rfl, by kernel_rfl, by kernel_rfl, by kernel_rfl, by kernel_rfl⟩
noncomputable def R_54 : FnRec := (aget fnT 54).getD ⟨[], [], .nil, [], []⟩
theorem fnP_54 (P : Params) : FnP P 510 R_54 :=
  ⟨by kernel_rfl, by kernel_rfl, by kernel_rfl, by kernel_rfl, by kernel_rfl, by kernel_rfl, by kernel_rfl, by kernel_rfl, by kernel_rfl, by kernel_rfl, by kernel_rfl, by kernel_rfl, by kernel_rfl, by kernel_rfl, by kernel_rfl⟩
theorem len0 {vs : List Value} (h : vs.length = 0) : vs = [] := List.eq_nil_of_length_eq_zero h
theorem len1 {vs : List Value} (h : vs.length = 1) : ∃ v0, vs = [v0] := by
  cases vs with
  | nil => cases h
  | cons v r =>
    obtain rfl := len0 (vs := r) (Nat.succ.inj h)
    exact ⟨v, rfl⟩
theorem len2 {vs : List Value} (h : vs.length = 2) : ∃ v0 v1, vs = [v0, v1] := by
  cases vs with
  | nil => cases h
  | cons v r =>
    obtain ⟨v1, rfl⟩ := len1 (vs := r) (Nat.succ.inj h)
    exact ⟨v, v1, rfl⟩
theorem len3 {vs : List Value} (h : vs.length = 3) : ∃ v0 v1 v2, vs = [v0, v1, v2] := by
  cases vs with
  | nil => cases h
  | cons v r =>
    obtain ⟨v1, v2, rfl⟩ := len2 (vs := r) (Nat.succ.inj h)
    exact ⟨v, v1, v2, rfl⟩
theorem len4 {vs : List Value} (h : vs.length = 4) : ∃ v0 v1 v2 v3, vs = [v0, v1, v2, v3] := by
  cases vs with
  | nil => cases h
  | cons v r =>
    obtain ⟨v1, v2, v3, rfl⟩ := len3 (vs := r) (Nat.succ.inj h)
    exact ⟨v, v1, v2, v3, rfl⟩
theorem len5 {vs : List Value} (h : vs.length = 5) : ∃ v0 v1 v2 v3 v4, vs = [v0, v1, v2, v3, v4] := by
  cases vs with
  | nil => cases h
  | cons v r =>
    obtain ⟨v1, v2, v3, v4, rfl⟩ := len4 (vs := r) (Nat.succ.inj h)
    exact ⟨v, v1, v2, v3, v4, rfl⟩
theorem len6 {vs : List Value} (h : vs.length = 6) : ∃ v0 v1 v2 v3 v4 v5, vs = [v0, v1, v2, v3, v4, v5] := by
  cases vs with
  | nil => cases h
  | cons v r =>
    obtain ⟨v1, v2, v3, v4, v5, rfl⟩ := len5 (vs := r) (Nat.succ.inj h)
    exact ⟨v, v1, v2, v3, v4, v5, rfl⟩
theorem len7 {vs : List Value} (h : vs.length = 7) : ∃ v0 v1 v2 v3 v4 v5 v6, vs = [v0, v1, v2, v3, v4, v5, v6] := by
  cases vs with
  | nil => cases h
  | cons v r =>
    obtain ⟨v1, v2, v3, v4, v5, v6, rfl⟩ := len6 (vs := r) (Nat.succ.inj h)
    exact ⟨v, v1, v2, v3, v4, v5, v6, rfl⟩
theorem len8 {vs : List Value} (h : vs.length = 8) : ∃ v0 v1 v2 v3 v4 v5 v6 v7, vs = [v0, v1, v2, v3, v4, v5, v6, v7] := by
  cases vs with
  | nil => cases h
  | cons v r =>
    obtain ⟨v1, v2, v3, v4, v5, v6, v7, rfl⟩ := len7 (vs := r) (Nat.succ.inj h)
    exact ⟨v, v1, v2, v3, v4, v5, v6, v7, rfl⟩
theorem len9 {vs : List Value} (h : vs.length = 9) : ∃ v0 v1 v2 v3 v4 v5 v6 v7 v8, vs = [v0, v1, v2, v3, v4, v5, v6, v7, v8] := by
  cases vs with
  | nil => cases h
  | cons v r =>
    obtain ⟨v1, v2, v3, v4, v5, v6, v7, v8, rfl⟩ := len8 (vs := r) (Nat.succ.inj h)
    exact ⟨v, v1, v2, v3, v4, v5, v6, v7, v8, rfl⟩
theorem bd_1 (P : Params) (vs : List Value) (h : vs.length = 1) : bindArgs (fdOf P 89) ⟨vs, []⟩ = pure ((R_1.params.map nm).zip vs) := by
  obtain ⟨v0, rfl⟩ := len1 h
  kernel_rfl
theorem bd_2 (P : Params) (vs : List Value) (h : vs.length = 1) : bindArgs (fdOf P 96) ⟨vs, []⟩ = pure ((R_2.params.map nm).zip vs) := by
  obtain ⟨v0, rfl⟩ := len1 h
  kernel_rfl
theorem bd_3 (P : Params) (vs : List Value) (h : vs.length = 1) : bindArgs (fdOf P 110) ⟨vs, []⟩ = pure ((R_3.params.map nm).zip vs) := by
  obtain ⟨v0, rfl⟩ := len1 h
  kernel_rfl
theorem bd_4 (P : Params) (vs : List Value) (h : vs.length = 1) : bindArgs (fdOf P 117) ⟨vs, []⟩ = pure ((R_4.params.map nm).zip vs) := by
  obtain ⟨v0, rfl⟩ := len1 h
  kernel_rfl
theorem bd_5 (P : Params) (vs : List Value) (h : vs.length = 1) : bindArgs (fdOf P 124) ⟨vs, []⟩ = pure ((R_5.params.map nm).zip vs) := by
  obtain ⟨v0, rfl⟩ := len1 h
  kernel_rfl
theorem bd_6 (P : Params) (vs : List Value) (h : vs.length = 1) : bindArgs (fdOf P 131) ⟨vs, []⟩ = pure ((R_6.params.map nm).zip vs) := by
  obtain ⟨v0, rfl⟩ := len1 h
  kernel_rfl
theorem bd_7 (P : Params) (vs : List Value) (h : vs.length = 1) : bindArgs (fdOf P 138) ⟨vs, []⟩ = pure ((R_7.params.map nm).zip vs) := by
  obtain ⟨v0, rfl⟩ := len1 h
  kernel_rfl
theorem bd_8 (P : Params) (vs : List Value) (h : vs.length = 3) : bindArgs (fdOf P 145) ⟨vs, []⟩ = pure ((R_8.params.map nm).zip vs) := by
  obtain ⟨v0, v1, v2, rfl⟩ := len3 h
  kernel_rfl
theorem bd_9 (P : Params) (vs : List Value) (h : vs.length = 2) : bindArgs (fdOf P 152) ⟨vs, []⟩ = pure ((R_9.params.map nm).zip vs) := by
  obtain ⟨v0, v1, rfl⟩ := len2 h
  kernel_rfl
theorem bd_10 (P : Params) (vs : List Value) (h : vs.length = 4) : bindArgs (fdOf P 159) ⟨vs, []⟩ = pure ((R_10.params.map nm).zip vs) := by
  obtain ⟨v0, v1, v2, v3, rfl⟩ := len4 h
  kernel_rfl
theorem bd_11 (P : Params) (vs : List Value) (h : vs.length = 3) : bindArgs (fdOf P 164) ⟨vs, []⟩ = pure ((R_11.params.map nm).zip vs) := by
  obtain ⟨v0, v1, v2, rfl⟩ := len3 h
  kernel_rfl
theorem bd_13 (P : Params) (vs : List Value) (h : vs.length = 1) : bindArgs (fdOf P 179) ⟨vs, []⟩ = pure ((R_13.params.map nm).zip vs) := by
  obtain ⟨v0, rfl⟩ := len1 h
  kernel_rfl
theorem bd_14 (P : Params) (vs : List Value) (h : vs.length = 1) : bindArgs (fdOf P 186) ⟨vs, []⟩ = pure ((R_14.params.map nm).zip vs) := by
  obtain ⟨v0, rfl⟩ := len1 h
  kernel_rfl
theorem bd_15 (P : Params) (vs : List Value) (h : vs.length = 6) : bindArgs (fdOf P 193) ⟨vs, []⟩ = pure ((R_15.params.map nm).zip vs) := by
  obtain ⟨v0, v1, v2, v3, v4, v5, rfl⟩ := len6 h
  kernel_rfl
theorem bd_16 (P : Params) (vs : List Value) (h : vs.length = 1) : bindArgs (fdOf P 200) ⟨vs, []⟩ = pure ((R_16.params.map nm).zip vs) := by
  obtain ⟨v0, rfl⟩ := len1 h
  kernel_rfl
theorem bd_17 (P : Params) (vs : List Value) (h : vs.length = 1) : bindArgs (fdOf P 207) ⟨vs, []⟩ = pure ((R_17.params.map nm).zip vs) := by
  obtain ⟨v0, rfl⟩ := len1 h
  kernel_rfl
theorem bd_18 (P : Params) (vs : List Value) (h : vs.length = 0) : bindArgs (fdOf P 214) ⟨vs, []⟩ = pure ((R_18.params.map nm).zip vs) := by
  obtain rfl := len0 h
  kernel_rfl
theorem bd_19 (P : Params) (vs : List Value) (h : vs.length = 1) : bindArgs (fdOf P 221) ⟨vs, []⟩ = pure ((R_19.params.map nm).zip vs) := by
  obtain ⟨v0, rfl⟩ := len1 h
  kernel_rfl
theorem bd_20 (P : Params) (vs : List Value) (h : vs.length = 8) : bindArgs (fdOf P 235) ⟨vs, []⟩ = pure ((R_20.params.map nm).zip vs) := by
  obtain ⟨v0, v1, v2, v3, v4, v5, v6, v7, rfl⟩ := len8 h
  kernel_rfl
theorem bd_21 (P : Params) (vs : List Value) (h : vs.length = 1) : bindArgs (fdOf P 242) ⟨vs, []⟩ = pure ((R_21.params.map nm).zip vs) := by
  obtain ⟨v0, rfl⟩ := len1 h
  kernel_rfl
theorem bd_22 (P : Params) (vs : List Value) (h : vs.length = 4) : bindArgs (fdOf P 268) ⟨vs, []⟩ = pure ((R_22.params.map nm).zip vs) := by
  obtain ⟨v0, v1, v2, v3, rfl⟩ := len4 h
  kernel_rfl
theorem bd_23 (P : Params) (vs : List Value) (h : vs.length = 2) : bindArgs (fdOf P 289) ⟨vs, []⟩ = pure ((R_23.params.map nm).zip vs) := by
  obtain ⟨v0, v1, rfl⟩ := len2 h
  kernel_rfl
theorem bd_24 (P : Params) (vs : List Value) (h : vs.length = 2) : bindArgs (fdOf P 294) ⟨vs, []⟩ = pure ((R_24.params.map nm).zip vs) := by
  obtain ⟨v0, v1, rfl⟩ := len2 h
  kernel_rfl
theorem bd_25 (P : Params) (vs : List Value) (h : vs.length = 1) : bindArgs (fdOf P 301) ⟨vs, []⟩ = pure ((R_25.params.map nm).zip vs) := by
  obtain ⟨v0, rfl⟩ := len1 h
  kernel_rfl
theorem bd_26 (P : Params) (vs : List Value) (h : vs.length = 1) : bindArgs (fdOf P 308) ⟨vs, []⟩ = pure ((R_26.params.map nm).zip vs) := by
  obtain ⟨v0, rfl⟩ := len1 h
  kernel_rfl
theorem bd_27 (P : Params) (vs : List Value) (h : vs.length = 1) : bindArgs (fdOf P 313) ⟨vs, []⟩ = pure ((R_27.params.map nm).zip vs) := by
  obtain ⟨v0, rfl⟩ := len1 h
  kernel_rfl
theorem bd_28 (P : Params) (vs : List Value) (h : vs.length = 1) : bindArgs (fdOf P 327) ⟨vs, []⟩ = pure ((R_28.params.map nm).zip vs) := by
  obtain ⟨v0, rfl⟩ := len1 h
  kernel_rfl
theorem bd_29 (P : Params) (vs : List Value) (h : vs.length = 1) : bindArgs (fdOf P 334) ⟨vs, []⟩ = pure ((R_29.params.map nm).zip vs) := by
  obtain ⟨v0, rfl⟩ := len1 h
  kernel_rfl
theorem bd_30 (P : Params) (vs : List Value) (h : vs.length = 3) : bindArgs (fdOf P 341) ⟨vs, []⟩ = pure ((R_30.params.map nm).zip vs) := by
  obtain ⟨v0, v1, v2, rfl⟩ := len3 h
  kernel_rfl
theorem bd_31 (P : Params) (vs : List Value) (h : vs.length = 2) : bindArgs (fdOf P 348) ⟨vs, []⟩ = pure ((R_31.params.map nm).zip vs) := by
  obtain ⟨v0, v1, rfl⟩ := len2 h
  kernel_rfl
theorem bd_32 (P : Params) (vs : List Value) (h : vs.length = 2) : bindArgs (fdOf P 355) ⟨vs, []⟩ = pure ((R_32.params.map nm).zip vs) := by
  obtain ⟨v0, v1, rfl⟩ := len2 h
  kernel_rfl
theorem bd_33 (P : Params) (vs : List Value) (h : vs.length = 2) : bindArgs (fdOf P 362) ⟨vs, []⟩ = pure ((R_33.params.map nm).zip vs) := by
  obtain ⟨v0, v1, rfl⟩ := len2 h
  kernel_rfl
theorem bd_34 (P : Params) (vs : List Value) (h : vs.length = 2) : bindArgs (fdOf P 369) ⟨vs, []⟩ = pure ((R_34.params.map nm).zip vs) := by
  obtain ⟨v0, v1, rfl⟩ := len2 h
  kernel_rfl
theorem bd_35 (P : Params) (vs : List Value) (h : vs.length = 2) : bindArgs (fdOf P 376) ⟨vs, []⟩ = pure ((R_35.params.map nm).zip vs) := by
  obtain ⟨v0, v1, rfl⟩ := len2 h
  kernel_rfl
theorem bd_36 (P : Params) (vs : List Value) (h : vs.length = 3) : bindArgs (fdOf P 383) ⟨vs, []⟩ = pure ((R_36.params.map nm).zip vs) := by
  obtain ⟨v0, v1, v2, rfl⟩ := len3 h
  kernel_rfl
theorem bd_37 (P : Params) (vs : List Value) (h : vs.length = 1) : bindArgs (fdOf P 390) ⟨vs, []⟩ = pure ((R_37.params.map nm).zip vs) := by
  obtain ⟨v0, rfl⟩ := len1 h
  kernel_rfl
theorem bd_38 (P : Params) (vs : List Value) (h : vs.length = 2) : bindArgs (fdOf P 397) ⟨vs, []⟩ = pure ((R_38.params.map nm).zip vs) := by
  obtain ⟨v0, v1, rfl⟩ := len2 h
  kernel_rfl
theorem bd_39 (P : Params) (vs : List Value) (h : vs.length = 2) : bindArgs (fdOf P 404) ⟨vs, []⟩ = pure ((R_39.params.map nm).zip vs) := by
  obtain ⟨v0, v1, rfl⟩ := len2 h
  kernel_rfl
theorem bd_40 (P : Params) (vs : List Value) (h : vs.length = 2) : bindArgs (fdOf P 411) ⟨vs, []⟩ = pure ((R_40.params.map nm).zip vs) := by
  obtain ⟨v0, v1, rfl⟩ := len2 h
  kernel_rfl
theorem bd_41 (P : Params) (vs : List Value) (h : vs.length = 2) : bindArgs (fdOf P 418) ⟨vs, []⟩ = pure ((R_41.params.map nm).zip vs) := by
  obtain ⟨v0, v1, rfl⟩ := len2 h
  kernel_rfl
theorem bd_42 (P : Params) (vs : List Value) (h : vs.length = 1) : bindArgs (fdOf P 425) ⟨vs, []⟩ = pure ((R_42.params.map nm).zip vs) := by
  obtain ⟨v0, rfl⟩ := len1 h
  kernel_rfl
theorem bd_43 (P : Params) (vs : List Value) (h : vs.length = 1) : bindArgs (fdOf P 432) ⟨vs, []⟩ = pure ((R_43.params.map nm).zip vs) := by
  obtain ⟨v0, rfl⟩ := len1 h
  kernel_rfl
theorem bd_44 (P : Params) (vs : List Value) (h : vs.length = 2) : bindArgs (fdOf P 444) ⟨vs, []⟩ = pure ((R_44.params.map nm).zip vs) := by
  obtain ⟨v0, v1, rfl⟩ := len2 h
  kernel_rfl
theorem bd_45 (P : Params) (vs : List Value) (h : vs.length = 1) : bindArgs (fdOf P 449) ⟨vs, []⟩ = pure ((R_45.params.map nm).zip vs) := by
  obtain ⟨v0, rfl⟩ := len1 h
  kernel_rfl
theorem bd_46 (P : Params) (vs : List Value) (h : vs.length = 2) : bindArgs (fdOf P 456) ⟨vs, []⟩ = pure ((R_46.params.map nm).zip vs) := by
  obtain ⟨v0, v1, rfl⟩ := len2 h
  kernel_rfl
theorem bd_47 (P : Params) (vs : List Value) (h : vs.length = 1) : bindArgs (fdOf P 461) ⟨vs, []⟩ = pure ((R_47.params.map nm).zip vs) := by
  obtain ⟨v0, rfl⟩ := len1 h
  kernel_rfl
theorem bd_48 (P : Params) (vs : List Value) (h : vs.length = 0) : bindArgs (fdOf P 468) ⟨vs, []⟩ = pure ((R_48.params.map nm).zip vs) := by
  obtain rfl := len0 h
  kernel_rfl
theorem bd_49 (P : Params) (vs : List Value) (h : vs.length = 6) : bindArgs (fdOf P 475) ⟨vs, []⟩ = pure ((R_49.params.map nm).zip vs) := by
  obtain ⟨v0, v1, v2, v3, v4, v5, rfl⟩ := len6 h
  kernel_rfl
theorem bd_50 (P : Params) (vs : List Value) (h : vs.length = 3) : bindArgs (fdOf P 482) ⟨vs, []⟩ = pure ((R_50.params.map nm).zip vs) := by
  obtain ⟨v0, v1, v2, rfl⟩ := len3 h
  kernel_rfl
theorem bd_51 (P : Params) (vs : List Value) (h : vs.length = 6) : bindArgs (fdOf P 489) ⟨vs, []⟩ = pure ((R_51.params.map nm).zip vs) := by
  obtain ⟨v0, v1, v2, v3, v4, v5, rfl⟩ := len6 h
  kernel_rfl
theorem bd_52 (P : Params) (vs : List Value) (h : vs.length = 7) : bindArgs (fdOf P 496) ⟨vs, []⟩ = pure ((R_52.params.map nm).zip vs) := by
  obtain ⟨v0, v1, v2, v3, v4, v5, v6, rfl⟩ := len7 h
  kernel_rfl
theorem bd_53 (P : Params) (vs : List Value) (h : vs.length = 2) : bindArgs (fdOf P 503) ⟨vs, []⟩ = pure ((R_53.params.map nm).zip vs) := by
  obtain ⟨v0, v1, rfl⟩ := len2 h
  kernel_rfl
theorem bd_54 (P : Params) (vs : List Value) (h : vs.length = 2) : bindArgs (fdOf P 510) ⟨vs, []⟩ = pure ((R_54.params.map nm).zip vs) := by
  obtain ⟨v0, v1, rfl⟩ := len2 h
  kernel_rfl
theorem gl_120 (P : Params) : nsIn (hd.heap_39 P) mainGlobals (nm 120) = some (some (.ref 110)) := by kernel_rfl
theorem gl_121 (P : Params) : nsIn (hd.heap_39 P) mainGlobals (nm 121) = some (some (.ref 117)) := by kernel_rfl
theorem gl_118 (P : Params) : nsIn (hd.heap_39 P) mainGlobals (nm 118) = some (some (.ref 124)) := by kernel_rfl
theorem gl_19 (P : Params) : nsIn (hd.heap_39 P) mainGlobals (nm 19) = some (some (.ref 131)) := by kernel_rfl
theorem gl_18 (P : Params) : nsIn (hd.heap_39 P) mainGlobals (nm 18) = some (some (.ref 138)) := by kernel_rfl
theorem gl_28 (P : Params) : nsIn (hd.heap_39 P) mainGlobals (nm 28) = some (some (.ref 145)) := by kernel_rfl
theorem gl_25 (P : Params) : nsIn (hd.heap_39 P) mainGlobals (nm 25) = some (some (.ref 152)) := by kernel_rfl
theorem gl_26 (P : Params) : nsIn (hd.heap_39 P) mainGlobals (nm 26) = some (some (.ref 159)) := by kernel_rfl
theorem gl_27 (P : Params) : nsIn (hd.heap_39 P) mainGlobals (nm 27) = some (some (.ref 164)) := by kernel_rfl
theorem gl_111 (P : Params) : nsIn (hd.heap_39 P) mainGlobals (nm 111) = some (some (.ref 172)) := by kernel_rfl
theorem gl_123 (P : Params) : nsIn (hd.heap_39 P) mainGlobals (nm 123) = some (some (.ref 179)) := by kernel_rfl
theorem gl_124 (P : Params) : nsIn (hd.heap_39 P) mainGlobals (nm 124) = some (some (.ref 186)) := by kernel_rfl
theorem gl_38 (P : Params) : nsIn (hd.heap_39 P) mainGlobals (nm 38) = some (some (.ref 193)) := by kernel_rfl
theorem gl_36 (P : Params) : nsIn (hd.heap_39 P) mainGlobals (nm 36) = some (some (.ref 200)) := by kernel_rfl
theorem gl_127 (P : Params) : nsIn (hd.heap_39 P) mainGlobals (nm 127) = some (some (.ref 207)) := by kernel_rfl
theorem gl_125 (P : Params) : nsIn (hd.heap_39 P) mainGlobals (nm 125) = some (some (.ref 214)) := by kernel_rfl
theorem gl_119 (P : Params) : nsIn (hd.heap_39 P) mainGlobals (nm 119) = some (some (.ref 221)) := by kernel_rfl
theorem gl_51 (P : Params) : nsIn (hd.heap_39 P) mainGlobals (nm 51) = some (some (.ref 289)) := by kernel_rfl
theorem gl_52 (P : Params) : nsIn (hd.heap_39 P) mainGlobals (nm 52) = some (some (.ref 294)) := by kernel_rfl
theorem gl_106 (P : Params) : nsIn (hd.heap_39 P) mainGlobals (nm 106) = some (some (.ref 301)) := by kernel_rfl
theorem gl_90 (P : Params) : nsIn (hd.heap_39 P) mainGlobals (nm 90) = some (some (.ref 308)) := by kernel_rfl
theorem gl_94 (P : Params) : nsIn (hd.heap_39 P) mainGlobals (nm 94) = some (some (.ref 313)) := by kernel_rfl
theorem gl_108 (P : Params) : nsIn (hd.heap_39 P) mainGlobals (nm 108) = some (some (.ref 444)) := by kernel_rfl
theorem gl_100 (P : Params) : nsIn (hd.heap_39 P) mainGlobals (nm 100) = some (some (.ref 449)) := by kernel_rfl
theorem gl_107 (P : Params) : nsIn (hd.heap_39 P) mainGlobals (nm 107) = some (some (.ref 456)) := by kernel_rfl
theorem gl_129 (P : Params) : nsIn (hd.heap_39 P) mainGlobals (nm 129) = some (some (.ref 461)) := by kernel_rfl
theorem gl_128 (P : Params) : nsIn (hd.heap_39 P) mainGlobals (nm 128) = some (some (.ref 468)) := by kernel_rfl
theorem gl_113 (P : Params) : nsIn (hd.heap_39 P) mainGlobals (nm 113) = some (some (.ref 475)) := by kernel_rfl
theorem gl_114 (P : Params) : nsIn (hd.heap_39 P) mainGlobals (nm 114) = some (some (.ref 482)) := by kernel_rfl
theorem gl_112 (P : Params) : nsIn (hd.heap_39 P) mainGlobals (nm 112) = some (some (.ref 489)) := by kernel_rfl
theorem gl_132 (P : Params) : nsIn (hd.heap_39 P) mainGlobals (nm 132) = some (some (.ref 496)) := by kernel_rfl
theorem gl_135 (P : Params) : nsIn (hd.heap_39 P) mainGlobals (nm 135) = some (some (.ref 503)) := by kernel_rfl
theorem gl_139 (P : Params) : nsIn (hd.heap_39 P) mainGlobals (nm 139) = some (some (.ref 510)) := by kernel_rfl
theorem gl_29 (P : Params) : nsIn (hd.heap_39 P) mainGlobals (nm 29) = some (some (.ref 99)) := by kernel_rfl
theorem gl_98 (P : Params) : nsIn (hd.heap_39 P) mainGlobals (nm 98) = some (some (.ref 250)) := by kernel_rfl
theorem gl_55 (P : Params) : nsIn (hd.heap_39 P) mainGlobals (nm 55) = some (some (.ref 278)) := by kernel_rfl
theorem gl_89 (P : Params) : nsIn (hd.heap_39 P) mainGlobals (nm 89) = some (some (.ref 435)) := by kernel_rfl
theorem gl_17 (P : Params) : nsIn (hd.heap_39 P) mainGlobals (nm 17) = some (some (.ref 65)) := by kernel_rfl
theorem gl_30 (P : Params) : nsIn (hd.heap_39 P) mainGlobals (nm 30) = some none ∧ bootBuiltins (nm 30) = some (.builtin "len") := ⟨by kernel_rfl, by kernel_rfl⟩
theorem gl_50 (P : Params) : nsIn (hd.heap_39 P) mainGlobals (nm 50) = some none ∧ bootBuiltins (nm 50) = some (.type "int") := ⟨by kernel_rfl, by kernel_rfl⟩
theorem gl_35 (P : Params) : nsIn (hd.heap_39 P) mainGlobals (nm 35) = some none ∧ bootBuiltins (nm 35) = some (.builtin "max") := ⟨by kernel_rfl, by kernel_rfl⟩
theorem gl_58 (P : Params) : nsIn (hd.heap_39 P) mainGlobals (nm 58) = some none ∧ bootBuiltins (nm 58) = some (.builtin "sum") := ⟨by kernel_rfl, by kernel_rfl⟩
theorem gl_42 (P : Params) : nsIn (hd.heap_39 P) mainGlobals (nm 42) = some none ∧ bootBuiltins (nm 42) = some (.type "tuple") := ⟨by kernel_rfl, by kernel_rfl⟩
theorem gl_37 (P : Params) : nsIn (hd.heap_39 P) mainGlobals (nm 37) = some none ∧ bootBuiltins (nm 37) = some (.builtin "abs") := ⟨by kernel_rfl, by kernel_rfl⟩
theorem gl_126 (P : Params) : nsIn (hd.heap_39 P) mainGlobals (nm 126) = some none ∧ bootBuiltins (nm 126) = some (.type "str") := ⟨by kernel_rfl, by kernel_rfl⟩
theorem gl_103 (P : Params) : nsIn (hd.heap_39 P) mainGlobals (nm 103) = some none ∧ bootBuiltins (nm 103) = some (.builtin "chr") := ⟨by kernel_rfl, by kernel_rfl⟩
theorem gl_104 (P : Params) : nsIn (hd.heap_39 P) mainGlobals (nm 104) = some none ∧ bootBuiltins (nm 104) = some (.builtin "ord") := ⟨by kernel_rfl, by kernel_rfl⟩
theorem gl_131 (P : Params) : nsIn (hd.heap_39 P) mainGlobals (nm 131) = some none ∧ bootBuiltins (nm 131) = some (.type "enumerate") := ⟨by kernel_rfl, by kernel_rfl⟩
theorem gl_134 (P : Params) : nsIn (hd.heap_39 P) mainGlobals (nm 134) = some none ∧ bootBuiltins (nm 134) = some (.type "range") := ⟨by kernel_rfl, by kernel_rfl⟩
theorem gl_138 (P : Params) : nsIn (hd.heap_39 P) mainGlobals (nm 138) = some none ∧ bootBuiltins (nm 138) = some (.type "list") := ⟨by kernel_rfl, by kernel_rfl⟩
theorem gl_20 (P : Params) : nsIn (hd.heap_39 P) mainGlobals (nm 20) = some (some (.str ⟨([100,105,115,112,108,97,121,32,112,97,99,107,101,100,32,98,105,110,97,114,121,32,105,110,100,101,120] : List Nat).toArray⟩ 263)) := by kernel_rfl
theorem gl_39 (P : Params) : nsIn (hd.heap_39 P) mainGlobals (nm 39) = some (some (.int 4 265)) := by kernel_rfl
theorem gl_40 (P : Params) : nsIn (hd.heap_39 P) mainGlobals (nm 40) = some (some (.int 9 267)) := by kernel_rfl
theorem gl_16 (P : Params) : nsIn (hd.heap_39 P) mainGlobals (nm 16) = some (some (.int 18 269)) := by kernel_rfl
theorem gl_44 (P : Params) : nsIn (hd.heap_39 P) mainGlobals (nm 44) = some (some (.str ⟨([65,66,80,83,86,88,90,57,48,47,44,46,43,45,42,36] : List Nat).toArray⟩ 480)) := by kernel_rfl
theorem gl_99 (P : Params) : nsIn (hd.heap_39 P) mainGlobals (nm 99) = some (some (.str ⟨([65,32,88,32,57,32,66,32,48,32,47] : List Nat).toArray⟩ 482)) := by kernel_rfl
theorem gl_96 (P : Params) : nsIn (hd.heap_39 P) mainGlobals (nm 96) = some (some (.str ⟨([57,32,80,32,83,32,86] : List Nat).toArray⟩ 484)) := by kernel_rfl
theorem gl_59 (P : Params) : nsIn (hd.heap_39 P) mainGlobals (nm 59) = some (some (.str ⟨([80,32,83,32,86] : List Nat).toArray⟩ 486)) := by kernel_rfl
theorem gl_53 (P : Params) : nsIn (hd.heap_39 P) mainGlobals (nm 53) = some (some (.str ⟨([83,32,86,32,46,32,67,82,32,68,66] : List Nat).toArray⟩ 488)) := by kernel_rfl
theorem gl_49 (P : Params) : nsIn (hd.heap_39 P) mainGlobals (nm 49) = some (some (.str ⟨([48,49,50,51,52,53,54,55,56,57] : List Nat).toArray⟩ 490)) := by kernel_rfl
theorem gl_101 (P : Params) : nsIn (hd.heap_39 P) mainGlobals (nm 101) = some (some (.int 30 492)) := by kernel_rfl
theorem gl_88 (P : Params) : nsIn (hd.heap_39 P) mainGlobals (nm 88) = some (some (.int 18 494)) := by kernel_rfl
theorem gl_95 (P : Params) : nsIn (hd.heap_39 P) mainGlobals (nm 95) = some (some (.int 9999 496)) := by kernel_rfl
theorem cl_0 (P : Params) : keepIn (hd.heap_39 P) (.ref 99) = true ∧ makesIn (hd.heap_39 P) 99 = true ∧ findIn (hd.heap_39 P) (.ref 99) "__init__" = some (some (.ref 82)) ∧ isFn (hd.heap_39 P) (.ref 82) = true ∧ plainGet (hd.heap_39 P) 99 "" = true ∧ hasDictIn (hd.heap_39 P) 99 = true ∧ findIn (hd.heap_39 P) (.ref 99) "__setattr__" = some (some (.builtin "object.__setattr__")) ∧ plainOver (hd.heap_39 P) 99 = true :=
  ⟨by kernel_rfl, by kernel_rfl, by kernel_rfl, by kernel_rfl, by kernel_rfl, by kernel_rfl, by kernel_rfl, by kernel_rfl⟩
theorem at_0_0 (P : Params) : findIn (hd.heap_39 P) (.ref 99) (nm 0) = some none ∧ takerIn (hd.heap_39 P) 99 (nm 0) = some none := ⟨by kernel_rfl, by kernel_rfl⟩
theorem at_0_2 (P : Params) : findIn (hd.heap_39 P) (.ref 99) (nm 2) = some none ∧ takerIn (hd.heap_39 P) 99 (nm 2) = some none := ⟨by kernel_rfl, by kernel_rfl⟩
theorem at_0_3 (P : Params) : findIn (hd.heap_39 P) (.ref 99) (nm 3) = some none ∧ takerIn (hd.heap_39 P) 99 (nm 3) = some none := ⟨by kernel_rfl, by kernel_rfl⟩
theorem at_0_4 (P : Params) : findIn (hd.heap_39 P) (.ref 99) (nm 4) = some none ∧ takerIn (hd.heap_39 P) 99 (nm 4) = some none := ⟨by kernel_rfl, by kernel_rfl⟩
theorem at_0_5 (P : Params) : findIn (hd.heap_39 P) (.ref 99) (nm 5) = some none ∧ takerIn (hd.heap_39 P) 99 (nm 5) = some none := ⟨by kernel_rfl, by kernel_rfl⟩
theorem at_0_6 (P : Params) : findIn (hd.heap_39 P) (.ref 99) (nm 6) = some none ∧ takerIn (hd.heap_39 P) 99 (nm 6) = some none := ⟨by kernel_rfl, by kernel_rfl⟩
theorem at_0_7 (P : Params) : findIn (hd.heap_39 P) (.ref 99) (nm 7) = some none ∧ takerIn (hd.heap_39 P) 99 (nm 7) = some none := ⟨by kernel_rfl, by kernel_rfl⟩
theorem at_0_8 (P : Params) : findIn (hd.heap_39 P) (.ref 99) (nm 8) = some none ∧ takerIn (hd.heap_39 P) 99 (nm 8) = some none := ⟨by kernel_rfl, by kernel_rfl⟩
theorem at_0_9 (P : Params) : findIn (hd.heap_39 P) (.ref 99) (nm 9) = some none ∧ takerIn (hd.heap_39 P) 99 (nm 9) = some none := ⟨by kernel_rfl, by kernel_rfl⟩
theorem at_0_10 (P : Params) : findIn (hd.heap_39 P) (.ref 99) (nm 10) = some none ∧ takerIn (hd.heap_39 P) 99 (nm 10) = some none := ⟨by kernel_rfl, by kernel_rfl⟩
theorem at_0_11 (P : Params) : findIn (hd.heap_39 P) (.ref 99) (nm 11) = some none ∧ takerIn (hd.heap_39 P) 99 (nm 11) = some none := ⟨by kernel_rfl, by kernel_rfl⟩
theorem me_0_14 (P : Params) : findIn (hd.heap_39 P) (.ref 99) (nm 14) = some (some (.ref 89)) := by kernel_rfl
theorem me_0_117 (P : Params) : findIn (hd.heap_39 P) (.ref 99) (nm 117) = some (some (.ref 96)) := by kernel_rfl
theorem cl_1 (P : Params) : keepIn (hd.heap_39 P) (.ref 250) = true ∧ makesIn (hd.heap_39 P) 250 = true ∧ findIn (hd.heap_39 P) (.ref 250) "__init__" = some (some (.ref 235)) ∧ isFn (hd.heap_39 P) (.ref 235) = true ∧ plainGet (hd.heap_39 P) 250 "" = true ∧ hasDictIn (hd.heap_39 P) 250 = true ∧ findIn (hd.heap_39 P) (.ref 250) "__setattr__" = some (some (.builtin "object.__setattr__")) ∧ plainOver (hd.heap_39 P) 250 = true :=
  ⟨by kernel_rfl, by kernel_rfl, by kernel_rfl, by kernel_rfl, by kernel_rfl, by kernel_rfl, by kernel_rfl, by kernel_rfl⟩
theorem at_1_41 (P : Params) : findIn (hd.heap_39 P) (.ref 250) (nm 41) = some none ∧ takerIn (hd.heap_39 P) 250 (nm 41) = some none := ⟨by kernel_rfl, by kernel_rfl⟩
theorem at_1_22 (P : Params) : findIn (hd.heap_39 P) (.ref 250) (nm 22) = some none ∧ takerIn (hd.heap_39 P) 250 (nm 22) = some none := ⟨by kernel_rfl, by kernel_rfl⟩
theorem at_1_0 (P : Params) : findIn (hd.heap_39 P) (.ref 250) (nm 0) = some none ∧ takerIn (hd.heap_39 P) 250 (nm 0) = some none := ⟨by kernel_rfl, by kernel_rfl⟩
theorem at_1_9 (P : Params) : findIn (hd.heap_39 P) (.ref 250) (nm 9) = some none ∧ takerIn (hd.heap_39 P) 250 (nm 9) = some none := ⟨by kernel_rfl, by kernel_rfl⟩
theorem at_1_10 (P : Params) : findIn (hd.heap_39 P) (.ref 250) (nm 10) = some none ∧ takerIn (hd.heap_39 P) 250 (nm 10) = some none := ⟨by kernel_rfl, by kernel_rfl⟩
theorem at_1_11 (P : Params) : findIn (hd.heap_39 P) (.ref 250) (nm 11) = some none ∧ takerIn (hd.heap_39 P) 250 (nm 11) = some none := ⟨by kernel_rfl, by kernel_rfl⟩
theorem at_1_2 (P : Params) : findIn (hd.heap_39 P) (.ref 250) (nm 2) = some none ∧ takerIn (hd.heap_39 P) 250 (nm 2) = some none := ⟨by kernel_rfl, by kernel_rfl⟩
theorem me_1_14 (P : Params) : findIn (hd.heap_39 P) (.ref 250) (nm 14) = some (some (.ref 242)) := by kernel_rfl
theorem cl_2 (P : Params) : keepIn (hd.heap_39 P) (.ref 278) = true ∧ makesIn (hd.heap_39 P) 278 = true ∧ findIn (hd.heap_39 P) (.ref 278) "__init__" = some (some (.ref 268)) ∧ isFn (hd.heap_39 P) (.ref 268) = true ∧ plainGet (hd.heap_39 P) 278 "" = true ∧ hasDictIn (hd.heap_39 P) 278 = true ∧ findIn (hd.heap_39 P) (.ref 278) "__setattr__" = some (some (.builtin "object.__setattr__")) ∧ plainOver (hd.heap_39 P) 278 = true :=
  ⟨by kernel_rfl, by kernel_rfl, by kernel_rfl, by kernel_rfl, by kernel_rfl, by kernel_rfl, by kernel_rfl, by kernel_rfl⟩
theorem at_2_5 (P : Params) : findIn (hd.heap_39 P) (.ref 278) (nm 5) = some none ∧ takerIn (hd.heap_39 P) 278 (nm 5) = some none := ⟨by kernel_rfl, by kernel_rfl⟩
theorem at_2_23 (P : Params) : findIn (hd.heap_39 P) (.ref 278) (nm 23) = some none ∧ takerIn (hd.heap_39 P) 278 (nm 23) = some none := ⟨by kernel_rfl, by kernel_rfl⟩
theorem at_2_43 (P : Params) : findIn (hd.heap_39 P) (.ref 278) (nm 43) = some none ∧ takerIn (hd.heap_39 P) 278 (nm 43) = some none := ⟨by kernel_rfl, by kernel_rfl⟩
theorem cl_3 (P : Params) : keepIn (hd.heap_39 P) (.ref 435) = true ∧ makesIn (hd.heap_39 P) 435 = true ∧ findIn (hd.heap_39 P) (.ref 435) "__init__" = some (some (.ref 327)) ∧ isFn (hd.heap_39 P) (.ref 327) = true ∧ plainGet (hd.heap_39 P) 435 "" = true ∧ hasDictIn (hd.heap_39 P) 435 = true ∧ findIn (hd.heap_39 P) (.ref 435) "__setattr__" = some (some (.builtin "object.__setattr__")) ∧ plainOver (hd.heap_39 P) 435 = true :=
  ⟨by kernel_rfl, by kernel_rfl, by kernel_rfl, by kernel_rfl, by kernel_rfl, by kernel_rfl, by kernel_rfl, by kernel_rfl⟩
theorem at_3_60 (P : Params) : findIn (hd.heap_39 P) (.ref 435) (nm 60) = some none ∧ takerIn (hd.heap_39 P) 435 (nm 60) = some none := ⟨by kernel_rfl, by kernel_rfl⟩
theorem at_3_61 (P : Params) : findIn (hd.heap_39 P) (.ref 435) (nm 61) = some none ∧ takerIn (hd.heap_39 P) 435 (nm 61) = some none := ⟨by kernel_rfl, by kernel_rfl⟩
theorem at_3_62 (P : Params) : findIn (hd.heap_39 P) (.ref 435) (nm 62) = some none ∧ takerIn (hd.heap_39 P) 435 (nm 62) = some none := ⟨by kernel_rfl, by kernel_rfl⟩
theorem at_3_63 (P : Params) : findIn (hd.heap_39 P) (.ref 435) (nm 63) = some none ∧ takerIn (hd.heap_39 P) 435 (nm 63) = some none := ⟨by kernel_rfl, by kernel_rfl⟩
theorem at_3_64 (P : Params) : findIn (hd.heap_39 P) (.ref 435) (nm 64) = some none ∧ takerIn (hd.heap_39 P) 435 (nm 64) = some none := ⟨by kernel_rfl, by kernel_rfl⟩
theorem at_3_65 (P : Params) : findIn (hd.heap_39 P) (.ref 435) (nm 65) = some none ∧ takerIn (hd.heap_39 P) 435 (nm 65) = some none := ⟨by kernel_rfl, by kernel_rfl⟩
theorem at_3_66 (P : Params) : findIn (hd.heap_39 P) (.ref 435) (nm 66) = some none ∧ takerIn (hd.heap_39 P) 435 (nm 66) = some none := ⟨by kernel_rfl, by kernel_rfl⟩
theorem at_3_67 (P : Params) : findIn (hd.heap_39 P) (.ref 435) (nm 67) = some none ∧ takerIn (hd.heap_39 P) 435 (nm 67) = some none := ⟨by kernel_rfl, by kernel_rfl⟩
theorem at_3_68 (P : Params) : findIn (hd.heap_39 P) (.ref 435) (nm 68) = some none ∧ takerIn (hd.heap_39 P) 435 (nm 68) = some none := ⟨by kernel_rfl, by kernel_rfl⟩
theorem at_3_69 (P : Params) : findIn (hd.heap_39 P) (.ref 435) (nm 69) = some none ∧ takerIn (hd.heap_39 P) 435 (nm 69) = some none := ⟨by kernel_rfl, by kernel_rfl⟩
theorem at_3_70 (P : Params) : findIn (hd.heap_39 P) (.ref 435) (nm 70) = some none ∧ takerIn (hd.heap_39 P) 435 (nm 70) = some none := ⟨by kernel_rfl, by kernel_rfl⟩
theorem at_3_5 (P : Params) : findIn (hd.heap_39 P) (.ref 435) (nm 5) = some none ∧ takerIn (hd.heap_39 P) 435 (nm 5) = some none := ⟨by kernel_rfl, by kernel_rfl⟩
theorem at_3_71 (P : Params) : findIn (hd.heap_39 P) (.ref 435) (nm 71) = some none ∧ takerIn (hd.heap_39 P) 435 (nm 71) = some none := ⟨by kernel_rfl, by kernel_rfl⟩
theorem at_3_72 (P : Params) : findIn (hd.heap_39 P) (.ref 435) (nm 72) = some none ∧ takerIn (hd.heap_39 P) 435 (nm 72) = some none := ⟨by kernel_rfl, by kernel_rfl⟩
theorem at_3_73 (P : Params) : findIn (hd.heap_39 P) (.ref 435) (nm 73) = some none ∧ takerIn (hd.heap_39 P) 435 (nm 73) = some none := ⟨by kernel_rfl, by kernel_rfl⟩
theorem at_3_74 (P : Params) : findIn (hd.heap_39 P) (.ref 435) (nm 74) = some none ∧ takerIn (hd.heap_39 P) 435 (nm 74) = some none := ⟨by kernel_rfl, by kernel_rfl⟩
theorem me_3_9 (P : Params) : findIn (hd.heap_39 P) (.ref 435) (nm 9) = some (some (.ref 334)) := by kernel_rfl
theorem me_3_77 (P : Params) : findIn (hd.heap_39 P) (.ref 435) (nm 77) = some (some (.ref 341)) := by kernel_rfl
theorem me_3_81 (P : Params) : findIn (hd.heap_39 P) (.ref 435) (nm 81) = some (some (.ref 348)) := by kernel_rfl
theorem me_3_82 (P : Params) : findIn (hd.heap_39 P) (.ref 435) (nm 82) = some (some (.ref 355)) := by kernel_rfl
theorem me_3_83 (P : Params) : findIn (hd.heap_39 P) (.ref 435) (nm 83) = some (some (.ref 362)) := by kernel_rfl
theorem me_3_84 (P : Params) : findIn (hd.heap_39 P) (.ref 435) (nm 84) = some (some (.ref 369)) := by kernel_rfl
theorem me_3_87 (P : Params) : findIn (hd.heap_39 P) (.ref 435) (nm 87) = some (some (.ref 376)) := by kernel_rfl
theorem me_3_78 (P : Params) : findIn (hd.heap_39 P) (.ref 435) (nm 78) = some (some (.ref 383)) := by kernel_rfl
theorem me_3_79 (P : Params) : findIn (hd.heap_39 P) (.ref 435) (nm 79) = some (some (.ref 390)) := by kernel_rfl
theorem me_3_85 (P : Params) : findIn (hd.heap_39 P) (.ref 435) (nm 85) = some (some (.ref 397)) := by kernel_rfl
theorem me_3_86 (P : Params) : findIn (hd.heap_39 P) (.ref 435) (nm 86) = some (some (.ref 404)) := by kernel_rfl
theorem me_3_80 (P : Params) : findIn (hd.heap_39 P) (.ref 435) (nm 80) = some (some (.ref 411)) := by kernel_rfl
theorem me_3_92 (P : Params) : findIn (hd.heap_39 P) (.ref 435) (nm 92) = some (some (.ref 418)) := by kernel_rfl
theorem me_3_93 (P : Params) : findIn (hd.heap_39 P) (.ref 435) (nm 93) = some (some (.ref 425)) := by kernel_rfl
theorem me_3_10 (P : Params) : findIn (hd.heap_39 P) (.ref 435) (nm 10) = some (some (.ref 432)) := by kernel_rfl
end Mine
end

section
set_option maxRecDepth 100000
namespace Mine
open PySem PySem.W PyProof.Rows PySem.Calls PySem.SeqAt
theorem nmIn_lt : ∀ (l : List String) (n i : Nat), n < l.length → ∃ s, l[n]? = some s ∧ nmIn l n i = Str.ofString s
  | [], n, i, h => by cases h
  | s :: r, 0, i, _ => ⟨s, rfl, rfl⟩
  | s :: r, n + 1, i, h => by
    obtain ⟨t, h1, h2⟩ := nmIn_lt r n i (Nat.lt_of_succ_lt_succ h)
    exact ⟨t, h1, h2⟩
theorem nmIn_ge : ∀ (l : List String) (n i : Nat), l.length ≤ n → nmIn l n i = ⟨#[1114200 + i]⟩
  | [], n, i, _ => by cases n <;> rfl
  | s :: r, 0, i, h => by cases h
  | s :: r, n + 1, i, h => nmIn_ge r n i (Nat.le_of_succ_le_succ h)
noncomputable def namesC : List (List Nat) := names.map fun s => (Str.ofString s).cps.toList
noncomputable def nodupB : List (List Nat) → Bool
  | [] => true
  | x :: r => r.all (fun y => !seq x y) && nodupB r
theorem names_nodup : nodupB namesC = true := by decide +kernel
theorem names_small : namesC.all (fun s => s.all fun c => Nat.blt c 1114112) = true := by decide +kernel
theorem nodupB_inj : ∀ {l : List (List Nat)}, nodupB l = true → ∀ {i j : Nat} {x : List Nat}, l[i]? = some x → l[j]? = some x → i = j
  | [], _, i, j, x, h, _ => by cases h
  | y :: r, h, i, j, x, h1, h2 => by
    obtain ⟨a, b⟩ := and3 h
    have nin : ∀ k, r[k]? ≠ some y := fun k hk => by
      have := List.all_eq_true.mp a y (List.mem_of_getElem? hk)
      rw [seq_beq] at this
      simp at this
    cases i with
    | zero =>
      cases j with
      | zero => rfl
      | succ j =>
        have h1 : some y = some x := h1
        cases h1
        exact absurd h2 (nin j)
    | succ i =>
      cases j with
      | zero =>
        have h2 : some y = some x := h2
        cases h2
        exact absurd h1 (nin i)
      | succ j => rw [nodupB_inj b (i := i) (j := j) h1 h2]
theorem nm_cps (i : Nat) (h : i < names.length) : namesC[i]? = some (nm i).cps.toList := by
  obtain ⟨s, h1, h2⟩ := nmIn_lt names i i h
  have h2 : nm i = Str.ofString s := h2
  rw [h2]
  unfold namesC
  rw [List.getElem?_map, h1]
  rfl
theorem nm_far (i : Nat) (h : names.length ≤ i) : nm i = ⟨#[1114200 + i]⟩ := nmIn_ge names i i h
theorem nm_near_far {i j : Nat} (hi : i < names.length) (hj : names.length ≤ j) : nm i ≠ nm j := fun e => by
  have h1 := nm_cps i hi
  have := List.all_eq_true.mp names_small _ (List.mem_of_getElem? h1)
  rw [e, nm_far j hj] at this
  have := List.all_eq_true.mp this (1114200 + j) (by simp)
  have := Nat.le_of_ble_eq_true this
  omega
theorem nm_inj (i j : Nat) (e : nm i = nm j) : i = j := by
  rcases Nat.lt_or_ge i names.length with hi | hi
  · rcases Nat.lt_or_ge j names.length with hj | hj
    · have h1 := nm_cps i hi
      have h2 := nm_cps j hj
      rw [← e] at h2
      exact nodupB_inj names_nodup h1 h2
    · exact absurd e (nm_near_far hi hj)
  · rcases Nat.lt_or_ge j names.length with hj | hj
    · exact absurd e.symm (nm_near_far hj hi)
    · rw [nm_far i hi, nm_far j hj] at e
      have := congrArg (fun s : PySem.Str => s.cps.toList) e
      simp at this
      exact this
theorem nm_not (t : PySem.Str) (h1 : namesC.all (fun s => !seq s t.cps.toList) = true) (h2 : t.cps.toList.length ≠ 1) (i : Nat) : nm i ≠ t := fun e => by
  rcases Nat.lt_or_ge i names.length with hi | hi
  · have := List.all_eq_true.mp h1 _ (List.mem_of_getElem? (nm_cps i hi))
    rw [e, seq_beq] at this
    simp at this
  · rw [nm_far i hi] at e
    apply h2
    rw [← e]; rfl
theorem nm_super (i : Nat) : nm i ≠ "super" := nm_not _ (by decide +kernel) (by decide +kernel) i
theorem nm_debug (i : Nat) : (nm i == ("__debug__" : PySem.Str)) = false := beq_eq_false_iff_ne.mpr (nm_not _ (by decide +kernel) (by decide +kernel) i)
theorem nm_name (i : Nat) : nm i ≠ "__name__" := nm_not _ (by decide +kernel) (by decide +kernel) i
end Mine
end

section
set_option maxRecDepth 100000
namespace Mine
open PySem PySem.W PyProof.Rows PySem.Calls PySem.SeqAt
noncomputable def bVd : Nat → Value
  | 0 => .builtin "len"
  | 1 => .type "int"
  | 2 => .builtin "max"
  | 3 => .builtin "sum"
  | 4 => .type "tuple"
  | 5 => .builtin "abs"
  | 6 => .type "str"
  | 7 => .builtin "chr"
  | 9 => .type "enumerate"
  | 10 => .type "range"
  | 11 => .type "list"
  | _ => .builtin "ord"
noncomputable def gm (u : Int) : Mn :=
  { nm := nm, fA := fAd, cA := cAd, bV := bVd, io := fun k => if k = 0 then u else absI u, D := ((Str.ofString (toString (absI u))).length : Int), inj := nm_inj }
/-- what varies -/
structure Vs where
  prog : Program
  w : World
  u : Int
  tb : Tb
  p : Program
  loose : List PySem.Str
  mg : PySem.Str → Option Value
  mb : PySem.Str → Option Value
  h₀ : Heap
noncomputable def mkW (V : Vs) : Wd :=
  { prog := V.prog, w := V.w, G := gm V.u, tb := V.tb, K := hd.heap_39 V.w.params, p := V.p, loose := V.loose, C := 65, mg := V.mg, mb := V.mb, h₀ := V.h₀ }
theorem FnP.ok {V : Vs} {k : Nat} {a : Addr} {R : FnRec} (F : FnP V.w.params a R) (ha : fAd k = a)
    (hb : ∀ {as l vs ρ} {s : Shared}, zipP R.params as R.dflts = some l → VRs (gm V.u) ρ as vs → (hd.heap_39 V.w.params).In s.heap → ∃ binds, BindsTo s (fdOf V.w.params a) ⟨vs, []⟩ binds ∧ (∀ y ∈ binds, (fdOf V.w.params a).scope.names.lookup y.1 = some .local) ∧
      ∀ x z, aget l x = some z → ∃ v, binds.reverse.lookup (nm x) = some v ∧ VR (gm V.u) ρ z v ∧ (fdOf V.w.params a).scope.names.lookup (nm x) = some .local) :
    FnOk (mkW V) k R (obOf V.w.params a) (fdOf V.w.params a) where
  lk := by show (hd.heap_39 V.w.params).lookup (fAd k) = _; rw [ha]; exact F.lk
  dt := F.dt
  body := F.body
  code := F.code
  co := F.co
  gen := F.gen
  kind := F.kind
  cell := fun x hx q => by
    have := List.all_eq_true.mp F.cell x hx
    rw [q] at this
    cases this
  locs := fun x hx => by
    have := List.all_eq_true.mp F.locs x (by rw [nelem_iff, decide_eq_true_eq] at hx; exact hx)
    exact beq_iff_eq.mp this
  glbs := fun x hx => by
    have := List.all_eq_true.mp F.glbs x (by rw [nelem_iff, decide_eq_true_eq] at hx; exact hx)
    exact beq_iff_eq.mp this
  gl := F.gl
  bu := F.bu
  bind := hb
theorem FnP.plain {V : Vs} {k : Nat} {a : Addr} {R : FnRec} (F : FnP V.w.params a R) (ha : fAd k = a) (hd' : R.dflts = []) (nd : R.params.Nodup)
    (hb : ∀ vs : List Value, vs.length = R.params.length → bindArgs (fdOf V.w.params a) ⟨vs, []⟩ = pure ((R.params.map nm).zip vs)) : FnOk (mkW V) k R (obOf V.w.params a) (fdOf V.w.params a) := by
  have locs : ∀ x, nelem R.locs x = true → (fdOf V.w.params a).scope.names.lookup (nm x) = some .local := fun x hx =>
    beq_iff_eq.mp (List.all_eq_true.mp F.locs x (by rw [nelem_iff, decide_eq_true_eq] at hx; exact hx))
  exact F.ok ha fun hz r KI => bind_plain (W := mkW V) hd' nd (fun x hx => List.all_eq_true.mp F.par x hx) locs (fun vs s hv _ => BindsTo.of_eq (hb vs hv)) hz r KI
end Mine
end

section
set_option maxRecDepth 100000
namespace Mine
open PySem PySem.W PyProof.Rows PySem.Calls PySem.SeqAt
noncomputable def kSplit (fd : FuncData) (vs : List Value) : { k : Option (Array Value) → Sem (List (PySem.Str × Value)) // bindArgs fd ⟨vs, []⟩ = seqItems? fd.defaults >>= k } := ⟨_, rfl⟩
theorem zipP_dflt : ∀ {xs : List Nat} {as d : List AV} {l : Loc}, zipP xs as d = some l → ∃ j, as.length + j = xs.length ∧ j ≤ d.length ∧ l = xs.zip (as ++ d.drop (d.length - j))
  | [], [], d, l, h => ⟨0, rfl, Nat.zero_le _, (Option.some.inj h).symm⟩
  | [], _ :: _, _, _, h => by cases h
  | x :: r, [], d, l, h => by
    have h : (bif Nat.ble (r.length + 1) d.length then some ((x :: r).zip (d.drop (d.length - (r.length + 1)))) else none) = some l := h
    cases z : Nat.ble (r.length + 1) d.length with
    | false => rw [z] at h; cases h
    | true =>
      rw [z] at h
      exact ⟨r.length + 1, by simp, Nat.le_of_ble_eq_true z, (Option.some.inj h).symm⟩
  | x :: r, v :: t, d, l, h => by
    have h : (zipP r t d).map ((x, v) :: ·) = some l := h
    cases z : zipP r t d with
    | none => rw [z] at h; cases h
    | some l' =>
      rw [z] at h
      obtain ⟨j, h1, h2, h3⟩ := zipP_dflt z
      exact ⟨j, by rw [List.length_cons, List.length_cons]; omega, h2, by rw [← Option.some.inj h, h3]; rfl⟩
theorem FnP.dflt {V : Vs} {k : Nat} {a T : Addr} {R : FnRec} {items : Array Value} {n : Nat} {o : Obj} (F : FnP V.w.params a R) (ha : fAd k = a) (nd : R.params.Nodup)
    (hT : (fdOf V.w.params a).defaults = .ref T) (ho : (hd.heap_39 V.w.params).lookup T = some o) (hs : o.data = .seq items n) (rv : ∀ ρ, VRs (gm V.u) ρ R.dflts items.toList)
    (hb : ∀ (vs : List Value) (j : Nat), vs.length + j = R.params.length → j ≤ R.dflts.length → (kSplit (fdOf V.w.params a) vs).1 (some items) = pure ((R.params.map nm).zip (vs ++ items.toList.drop (R.dflts.length - j)))) :
    FnOk (mkW V) k R (obOf V.w.params a) (fdOf V.w.params a) := by
  have locs : ∀ x, nelem R.locs x = true → (fdOf V.w.params a).scope.names.lookup (nm x) = some .local := fun x hx =>
    beq_iff_eq.mp (List.all_eq_true.mp F.locs x (by rw [nelem_iff, decide_eq_true_eq] at hx; exact hx))
  have par : ∀ x ∈ R.params, nelem R.locs x = true := fun x hx => List.all_eq_true.mp F.par x hx
  refine F.ok ha fun {as l vs ρ s} hz r KI => ?_
  obtain ⟨j, j1, j2, rfl⟩ := zipP_dflt hz
  have r2 : VRs (gm V.u) ρ (as ++ R.dflts.drop (R.dflts.length - j)) (vs ++ items.toList.drop (R.dflts.length - j)) := r.append ((rv ρ).drop _)
  refine ⟨(R.params.map nm).zip (vs ++ items.toList.drop (R.dflts.length - j)), BindsTo.of_defaults hT (KI _ _ ho) hs (kSplit (fdOf V.w.params a) vs).2 (hb vs j (by rw [VRs_len r]; exact j1) j2), fun y hy => ?_, fun x z e => ?_⟩
  · obtain ⟨x, hx, e⟩ := List.mem_map.mp (List.of_mem_zip (a := y.1) (b := y.2) hy).1
    rw [← e]
    exact locs x (par x hx)
  · obtain ⟨v, e1, e2⟩ := lookup_rev nm_inj nd r2 e
    exact ⟨v, e1, e2, locs x (par x (aget_zip_mem e))⟩
end Mine
end

section
set_option maxRecDepth 100000
namespace Mine
open PySem PySem.W PyProof.Rows PySem.Calls PySem.SeqAt
noncomputable def itemsOf (P : Params) (T : Addr) : Array Value := match (obOf P T).data with | .seq vs _ => vs | _ => #[]
theorem dq_0_0 (P : Params) (vs : List Value) (h : vs.length = 9) : (kSplit (fdOf P 82) vs).1 (some (itemsOf P 75)) = pure ((R_0.params.map nm).zip (vs ++ (itemsOf P 75).toList.drop (6 - 0))) := by
  obtain ⟨v0, v1, v2, v3, v4, v5, v6, v7, v8, rfl⟩ := len9 h
  kernel_rfl
theorem dq_0_1 (P : Params) (vs : List Value) (h : vs.length = 8) : (kSplit (fdOf P 82) vs).1 (some (itemsOf P 75)) = pure ((R_0.params.map nm).zip (vs ++ (itemsOf P 75).toList.drop (6 - 1))) := by
  obtain ⟨v0, v1, v2, v3, v4, v5, v6, v7, rfl⟩ := len8 h
  kernel_rfl
theorem dq_0_2 (P : Params) (vs : List Value) (h : vs.length = 7) : (kSplit (fdOf P 82) vs).1 (some (itemsOf P 75)) = pure ((R_0.params.map nm).zip (vs ++ (itemsOf P 75).toList.drop (6 - 2))) := by
  obtain ⟨v0, v1, v2, v3, v4, v5, v6, rfl⟩ := len7 h
  kernel_rfl
theorem dq_0_3 (P : Params) (vs : List Value) (h : vs.length = 6) : (kSplit (fdOf P 82) vs).1 (some (itemsOf P 75)) = pure ((R_0.params.map nm).zip (vs ++ (itemsOf P 75).toList.drop (6 - 3))) := by
  obtain ⟨v0, v1, v2, v3, v4, v5, rfl⟩ := len6 h
  kernel_rfl
theorem dq_0_4 (P : Params) (vs : List Value) (h : vs.length = 5) : (kSplit (fdOf P 82) vs).1 (some (itemsOf P 75)) = pure ((R_0.params.map nm).zip (vs ++ (itemsOf P 75).toList.drop (6 - 4))) := by
  obtain ⟨v0, v1, v2, v3, v4, rfl⟩ := len5 h
  kernel_rfl
theorem dq_0_5 (P : Params) (vs : List Value) (h : vs.length = 4) : (kSplit (fdOf P 82) vs).1 (some (itemsOf P 75)) = pure ((R_0.params.map nm).zip (vs ++ (itemsOf P 75).toList.drop (6 - 5))) := by
  obtain ⟨v0, v1, v2, v3, rfl⟩ := len4 h
  kernel_rfl
theorem dq_0_6 (P : Params) (vs : List Value) (h : vs.length = 3) : (kSplit (fdOf P 82) vs).1 (some (itemsOf P 75)) = pure ((R_0.params.map nm).zip (vs ++ (itemsOf P 75).toList.drop (6 - 6))) := by
  obtain ⟨v0, v1, v2, rfl⟩ := len3 h
  kernel_rfl
theorem rv_0 (V : Vs) (ρ : List Addr) : VRs (gm V.u) ρ R_0.dflts (itemsOf V.w.params 75).toList := by
  with_unfolding_all exact .cons .none (.cons (.str _ _) (.cons (.str _ _) (.cons (.bool _) (.cons (.bool _) (.cons (.bool _) .nil)))))
theorem fnOk_0 (V : Vs) : FnOk (mkW V) 0 R_0 (obOf V.w.params 82) (fdOf V.w.params 82) :=
  (fnP_0 V.w.params).dflt (T := 75) (items := itemsOf V.w.params 75) (n := 0) (o := obOf V.w.params 75) (by rfl) (by decide +kernel) (by kernel_rfl) (by kernel_rfl) (by kernel_rfl) (rv_0 V) fun vs j h hj => by
    have hj : j ≤ 6 := hj
    match j, h with
    | 0, h => exact dq_0_0 _ vs (by have h : vs.length + 0 = 9 := h; omega)
    | 1, h => exact dq_0_1 _ vs (by have h : vs.length + 1 = 9 := h; omega)
    | 2, h => exact dq_0_2 _ vs (by have h : vs.length + 2 = 9 := h; omega)
    | 3, h => exact dq_0_3 _ vs (by have h : vs.length + 3 = 9 := h; omega)
    | 4, h => exact dq_0_4 _ vs (by have h : vs.length + 4 = 9 := h; omega)
    | 5, h => exact dq_0_5 _ vs (by have h : vs.length + 5 = 9 := h; omega)
    | 6, h => exact dq_0_6 _ vs (by have h : vs.length + 6 = 9 := h; omega)
    | j + 7, h => omega
theorem fnOk_1 (V : Vs) : FnOk (mkW V) 1 R_1 (obOf V.w.params 89) (fdOf V.w.params 89) := (fnP_1 V.w.params).plain (by rfl) (by rfl) (by decide +kernel) (bd_1 V.w.params)
theorem fnOk_2 (V : Vs) : FnOk (mkW V) 2 R_2 (obOf V.w.params 96) (fdOf V.w.params 96) := (fnP_2 V.w.params).plain (by rfl) (by rfl) (by decide +kernel) (bd_2 V.w.params)
theorem fnOk_3 (V : Vs) : FnOk (mkW V) 3 R_3 (obOf V.w.params 110) (fdOf V.w.params 110) := (fnP_3 V.w.params).plain (by rfl) (by rfl) (by decide +kernel) (bd_3 V.w.params)
theorem fnOk_4 (V : Vs) : FnOk (mkW V) 4 R_4 (obOf V.w.params 117) (fdOf V.w.params 117) := (fnP_4 V.w.params).plain (by rfl) (by rfl) (by decide +kernel) (bd_4 V.w.params)
theorem fnOk_5 (V : Vs) : FnOk (mkW V) 5 R_5 (obOf V.w.params 124) (fdOf V.w.params 124) := (fnP_5 V.w.params).plain (by rfl) (by rfl) (by decide +kernel) (bd_5 V.w.params)
theorem fnOk_6 (V : Vs) : FnOk (mkW V) 6 R_6 (obOf V.w.params 131) (fdOf V.w.params 131) := (fnP_6 V.w.params).plain (by rfl) (by rfl) (by decide +kernel) (bd_6 V.w.params)
theorem fnOk_7 (V : Vs) : FnOk (mkW V) 7 R_7 (obOf V.w.params 138) (fdOf V.w.params 138) := (fnP_7 V.w.params).plain (by rfl) (by rfl) (by decide +kernel) (bd_7 V.w.params)
theorem fnOk_8 (V : Vs) : FnOk (mkW V) 8 R_8 (obOf V.w.params 145) (fdOf V.w.params 145) := (fnP_8 V.w.params).plain (by rfl) (by rfl) (by decide +kernel) (bd_8 V.w.params)
theorem fnOk_9 (V : Vs) : FnOk (mkW V) 9 R_9 (obOf V.w.params 152) (fdOf V.w.params 152) := (fnP_9 V.w.params).plain (by rfl) (by rfl) (by decide +kernel) (bd_9 V.w.params)
theorem fnOk_10 (V : Vs) : FnOk (mkW V) 10 R_10 (obOf V.w.params 159) (fdOf V.w.params 159) := (fnP_10 V.w.params).plain (by rfl) (by rfl) (by decide +kernel) (bd_10 V.w.params)
theorem fnOk_11 (V : Vs) : FnOk (mkW V) 11 R_11 (obOf V.w.params 164) (fdOf V.w.params 164) := (fnP_11 V.w.params).plain (by rfl) (by rfl) (by decide +kernel) (bd_11 V.w.params)
theorem dq_12_0 (P : Params) (vs : List Value) (h : vs.length = 6) : (kSplit (fdOf P 172) vs).1 (some (itemsOf P 165)) = pure ((R_12.params.map nm).zip (vs ++ (itemsOf P 165).toList.drop (5 - 0))) := by
  obtain ⟨v0, v1, v2, v3, v4, v5, rfl⟩ := len6 h
  kernel_rfl
theorem dq_12_1 (P : Params) (vs : List Value) (h : vs.length = 5) : (kSplit (fdOf P 172) vs).1 (some (itemsOf P 165)) = pure ((R_12.params.map nm).zip (vs ++ (itemsOf P 165).toList.drop (5 - 1))) := by
  obtain ⟨v0, v1, v2, v3, v4, rfl⟩ := len5 h
  kernel_rfl
theorem dq_12_2 (P : Params) (vs : List Value) (h : vs.length = 4) : (kSplit (fdOf P 172) vs).1 (some (itemsOf P 165)) = pure ((R_12.params.map nm).zip (vs ++ (itemsOf P 165).toList.drop (5 - 2))) := by
  obtain ⟨v0, v1, v2, v3, rfl⟩ := len4 h
  kernel_rfl
theorem dq_12_3 (P : Params) (vs : List Value) (h : vs.length = 3) : (kSplit (fdOf P 172) vs).1 (some (itemsOf P 165)) = pure ((R_12.params.map nm).zip (vs ++ (itemsOf P 165).toList.drop (5 - 3))) := by
  obtain ⟨v0, v1, v2, rfl⟩ := len3 h
  kernel_rfl
theorem dq_12_4 (P : Params) (vs : List Value) (h : vs.length = 2) : (kSplit (fdOf P 172) vs).1 (some (itemsOf P 165)) = pure ((R_12.params.map nm).zip (vs ++ (itemsOf P 165).toList.drop (5 - 4))) := by
  obtain ⟨v0, v1, rfl⟩ := len2 h
  kernel_rfl
theorem dq_12_5 (P : Params) (vs : List Value) (h : vs.length = 1) : (kSplit (fdOf P 172) vs).1 (some (itemsOf P 165)) = pure ((R_12.params.map nm).zip (vs ++ (itemsOf P 165).toList.drop (5 - 5))) := by
  obtain ⟨v0, rfl⟩ := len1 h
  kernel_rfl
theorem rv_12 (V : Vs) (ρ : List Addr) : VRs (gm V.u) ρ R_12.dflts (itemsOf V.w.params 165).toList := by
  with_unfolding_all exact .cons (.str _ _) (.cons (.str _ _) (.cons (.bool _) (.cons (.bool _) (.cons (.bool _) .nil))))
theorem fnOk_12 (V : Vs) : FnOk (mkW V) 12 R_12 (obOf V.w.params 172) (fdOf V.w.params 172) :=
  (fnP_12 V.w.params).dflt (T := 165) (items := itemsOf V.w.params 165) (n := 0) (o := obOf V.w.params 165) (by rfl) (by decide +kernel) (by kernel_rfl) (by kernel_rfl) (by kernel_rfl) (rv_12 V) fun vs j h hj => by
    have hj : j ≤ 5 := hj
    match j, h with
    | 0, h => exact dq_12_0 _ vs (by have h : vs.length + 0 = 6 := h; omega)
    | 1, h => exact dq_12_1 _ vs (by have h : vs.length + 1 = 6 := h; omega)
    | 2, h => exact dq_12_2 _ vs (by have h : vs.length + 2 = 6 := h; omega)
    | 3, h => exact dq_12_3 _ vs (by have h : vs.length + 3 = 6 := h; omega)
    | 4, h => exact dq_12_4 _ vs (by have h : vs.length + 4 = 6 := h; omega)
    | 5, h => exact dq_12_5 _ vs (by have h : vs.length + 5 = 6 := h; omega)
    | j + 6, h => omega
theorem fnOk_13 (V : Vs) : FnOk (mkW V) 13 R_13 (obOf V.w.params 179) (fdOf V.w.params 179) := (fnP_13 V.w.params).plain (by rfl) (by rfl) (by decide +kernel) (bd_13 V.w.params)
theorem fnOk_14 (V : Vs) : FnOk (mkW V) 14 R_14 (obOf V.w.params 186) (fdOf V.w.params 186) := (fnP_14 V.w.params).plain (by rfl) (by rfl) (by decide +kernel) (bd_14 V.w.params)
theorem fnOk_15 (V : Vs) : FnOk (mkW V) 15 R_15 (obOf V.w.params 193) (fdOf V.w.params 193) := (fnP_15 V.w.params).plain (by rfl) (by rfl) (by decide +kernel) (bd_15 V.w.params)
theorem fnOk_16 (V : Vs) : FnOk (mkW V) 16 R_16 (obOf V.w.params 200) (fdOf V.w.params 200) := (fnP_16 V.w.params).plain (by rfl) (by rfl) (by decide +kernel) (bd_16 V.w.params)
theorem fnOk_17 (V : Vs) : FnOk (mkW V) 17 R_17 (obOf V.w.params 207) (fdOf V.w.params 207) := (fnP_17 V.w.params).plain (by rfl) (by rfl) (by decide +kernel) (bd_17 V.w.params)
theorem fnOk_18 (V : Vs) : FnOk (mkW V) 18 R_18 (obOf V.w.params 214) (fdOf V.w.params 214) := (fnP_18 V.w.params).plain (by rfl) (by rfl) (by decide +kernel) (bd_18 V.w.params)
theorem fnOk_19 (V : Vs) : FnOk (mkW V) 19 R_19 (obOf V.w.params 221) (fdOf V.w.params 221) := (fnP_19 V.w.params).plain (by rfl) (by rfl) (by decide +kernel) (bd_19 V.w.params)
theorem fnOk_20 (V : Vs) : FnOk (mkW V) 20 R_20 (obOf V.w.params 235) (fdOf V.w.params 235) := (fnP_20 V.w.params).plain (by rfl) (by rfl) (by decide +kernel) (bd_20 V.w.params)
theorem fnOk_21 (V : Vs) : FnOk (mkW V) 21 R_21 (obOf V.w.params 242) (fdOf V.w.params 242) := (fnP_21 V.w.params).plain (by rfl) (by rfl) (by decide +kernel) (bd_21 V.w.params)
theorem fnOk_22 (V : Vs) : FnOk (mkW V) 22 R_22 (obOf V.w.params 268) (fdOf V.w.params 268) := (fnP_22 V.w.params).plain (by rfl) (by rfl) (by decide +kernel) (bd_22 V.w.params)
theorem fnOk_23 (V : Vs) : FnOk (mkW V) 23 R_23 (obOf V.w.params 289) (fdOf V.w.params 289) := (fnP_23 V.w.params).plain (by rfl) (by rfl) (by decide +kernel) (bd_23 V.w.params)
theorem fnOk_24 (V : Vs) : FnOk (mkW V) 24 R_24 (obOf V.w.params 294) (fdOf V.w.params 294) := (fnP_24 V.w.params).plain (by rfl) (by rfl) (by decide +kernel) (bd_24 V.w.params)
theorem fnOk_25 (V : Vs) : FnOk (mkW V) 25 R_25 (obOf V.w.params 301) (fdOf V.w.params 301) := (fnP_25 V.w.params).plain (by rfl) (by rfl) (by decide +kernel) (bd_25 V.w.params)
theorem fnOk_26 (V : Vs) : FnOk (mkW V) 26 R_26 (obOf V.w.params 308) (fdOf V.w.params 308) := (fnP_26 V.w.params).plain (by rfl) (by rfl) (by decide +kernel) (bd_26 V.w.params)
theorem fnOk_27 (V : Vs) : FnOk (mkW V) 27 R_27 (obOf V.w.params 313) (fdOf V.w.params 313) := (fnP_27 V.w.params).plain (by rfl) (by rfl) (by decide +kernel) (bd_27 V.w.params)
theorem fnOk_28 (V : Vs) : FnOk (mkW V) 28 R_28 (obOf V.w.params 327) (fdOf V.w.params 327) := (fnP_28 V.w.params).plain (by rfl) (by rfl) (by decide +kernel) (bd_28 V.w.params)
theorem fnOk_29 (V : Vs) : FnOk (mkW V) 29 R_29 (obOf V.w.params 334) (fdOf V.w.params 334) := (fnP_29 V.w.params).plain (by rfl) (by rfl) (by decide +kernel) (bd_29 V.w.params)
theorem fnOk_30 (V : Vs) : FnOk (mkW V) 30 R_30 (obOf V.w.params 341) (fdOf V.w.params 341) := (fnP_30 V.w.params).plain (by rfl) (by rfl) (by decide +kernel) (bd_30 V.w.params)
theorem fnOk_31 (V : Vs) : FnOk (mkW V) 31 R_31 (obOf V.w.params 348) (fdOf V.w.params 348) := (fnP_31 V.w.params).plain (by rfl) (by rfl) (by decide +kernel) (bd_31 V.w.params)
theorem fnOk_32 (V : Vs) : FnOk (mkW V) 32 R_32 (obOf V.w.params 355) (fdOf V.w.params 355) := (fnP_32 V.w.params).plain (by rfl) (by rfl) (by decide +kernel) (bd_32 V.w.params)
theorem fnOk_33 (V : Vs) : FnOk (mkW V) 33 R_33 (obOf V.w.params 362) (fdOf V.w.params 362) := (fnP_33 V.w.params).plain (by rfl) (by rfl) (by decide +kernel) (bd_33 V.w.params)
theorem fnOk_34 (V : Vs) : FnOk (mkW V) 34 R_34 (obOf V.w.params 369) (fdOf V.w.params 369) := (fnP_34 V.w.params).plain (by rfl) (by rfl) (by decide +kernel) (bd_34 V.w.params)
theorem fnOk_35 (V : Vs) : FnOk (mkW V) 35 R_35 (obOf V.w.params 376) (fdOf V.w.params 376) := (fnP_35 V.w.params).plain (by rfl) (by rfl) (by decide +kernel) (bd_35 V.w.params)
theorem fnOk_36 (V : Vs) : FnOk (mkW V) 36 R_36 (obOf V.w.params 383) (fdOf V.w.params 383) := (fnP_36 V.w.params).plain (by rfl) (by rfl) (by decide +kernel) (bd_36 V.w.params)
theorem fnOk_37 (V : Vs) : FnOk (mkW V) 37 R_37 (obOf V.w.params 390) (fdOf V.w.params 390) := (fnP_37 V.w.params).plain (by rfl) (by rfl) (by decide +kernel) (bd_37 V.w.params)
theorem fnOk_38 (V : Vs) : FnOk (mkW V) 38 R_38 (obOf V.w.params 397) (fdOf V.w.params 397) := (fnP_38 V.w.params).plain (by rfl) (by rfl) (by decide +kernel) (bd_38 V.w.params)
theorem fnOk_39 (V : Vs) : FnOk (mkW V) 39 R_39 (obOf V.w.params 404) (fdOf V.w.params 404) := (fnP_39 V.w.params).plain (by rfl) (by rfl) (by decide +kernel) (bd_39 V.w.params)
theorem fnOk_40 (V : Vs) : FnOk (mkW V) 40 R_40 (obOf V.w.params 411) (fdOf V.w.params 411) := (fnP_40 V.w.params).plain (by rfl) (by rfl) (by decide +kernel) (bd_40 V.w.params)
theorem fnOk_41 (V : Vs) : FnOk (mkW V) 41 R_41 (obOf V.w.params 418) (fdOf V.w.params 418) := (fnP_41 V.w.params).plain (by rfl) (by rfl) (by decide +kernel) (bd_41 V.w.params)
theorem fnOk_42 (V : Vs) : FnOk (mkW V) 42 R_42 (obOf V.w.params 425) (fdOf V.w.params 425) := (fnP_42 V.w.params).plain (by rfl) (by rfl) (by decide +kernel) (bd_42 V.w.params)
theorem fnOk_43 (V : Vs) : FnOk (mkW V) 43 R_43 (obOf V.w.params 432) (fdOf V.w.params 432) := (fnP_43 V.w.params).plain (by rfl) (by rfl) (by decide +kernel) (bd_43 V.w.params)
theorem fnOk_44 (V : Vs) : FnOk (mkW V) 44 R_44 (obOf V.w.params 444) (fdOf V.w.params 444) := (fnP_44 V.w.params).plain (by rfl) (by rfl) (by decide +kernel) (bd_44 V.w.params)
theorem fnOk_45 (V : Vs) : FnOk (mkW V) 45 R_45 (obOf V.w.params 449) (fdOf V.w.params 449) := (fnP_45 V.w.params).plain (by rfl) (by rfl) (by decide +kernel) (bd_45 V.w.params)
theorem fnOk_46 (V : Vs) : FnOk (mkW V) 46 R_46 (obOf V.w.params 456) (fdOf V.w.params 456) := (fnP_46 V.w.params).plain (by rfl) (by rfl) (by decide +kernel) (bd_46 V.w.params)
theorem fnOk_47 (V : Vs) : FnOk (mkW V) 47 R_47 (obOf V.w.params 461) (fdOf V.w.params 461) := (fnP_47 V.w.params).plain (by rfl) (by rfl) (by decide +kernel) (bd_47 V.w.params)
theorem fnOk_48 (V : Vs) : FnOk (mkW V) 48 R_48 (obOf V.w.params 468) (fdOf V.w.params 468) := (fnP_48 V.w.params).plain (by rfl) (by rfl) (by decide +kernel) (bd_48 V.w.params)
theorem fnOk_49 (V : Vs) : FnOk (mkW V) 49 R_49 (obOf V.w.params 475) (fdOf V.w.params 475) := (fnP_49 V.w.params).plain (by rfl) (by rfl) (by decide +kernel) (bd_49 V.w.params)
theorem fnOk_50 (V : Vs) : FnOk (mkW V) 50 R_50 (obOf V.w.params 482) (fdOf V.w.params 482) := (fnP_50 V.w.params).plain (by rfl) (by rfl) (by decide +kernel) (bd_50 V.w.params)
theorem fnOk_51 (V : Vs) : FnOk (mkW V) 51 R_51 (obOf V.w.params 489) (fdOf V.w.params 489) := (fnP_51 V.w.params).plain (by rfl) (by rfl) (by decide +kernel) (bd_51 V.w.params)
theorem fnOk_52 (V : Vs) : FnOk (mkW V) 52 R_52 (obOf V.w.params 496) (fdOf V.w.params 496) := (fnP_52 V.w.params).plain (by rfl) (by rfl) (by decide +kernel) (bd_52 V.w.params)
theorem fnOk_53 (V : Vs) : FnOk (mkW V) 53 R_53 (obOf V.w.params 503) (fdOf V.w.params 503) := (fnP_53 V.w.params).plain (by rfl) (by rfl) (by decide +kernel) (bd_53 V.w.params)
theorem fnOk_54 (V : Vs) : FnOk (mkW V) 54 R_54 (obOf V.w.params 510) (fdOf V.w.params 510) := (fnP_54 V.w.params).plain (by rfl) (by rfl) (by decide +kernel) (bd_54 V.w.params)
theorem fnT_eq : fnT = [(0, R_0), (1, R_1), (2, R_2), (3, R_3), (4, R_4), (5, R_5), (6, R_6), (7, R_7), (8, R_8), (9, R_9), (10, R_10), (11, R_11), (12, R_12), (13, R_13), (14, R_14), (15, R_15), (16, R_16), (17, R_17), (18, R_18), (19, R_19), (20, R_20), (21, R_21), (22, R_22), (23, R_23), (24, R_24), (25, R_25), (26, R_26), (27, R_27), (28, R_28), (29, R_29), (30, R_30), (31, R_31), (32, R_32), (33, R_33), (34, R_34), (35, R_35), (36, R_36), (37, R_37), (38, R_38), (39, R_39), (40, R_40), (41, R_41), (42, R_42), (43, R_43), (44, R_44), (45, R_45), (46, R_46), (47, R_47), (48, R_48), (49, R_49), (50, R_50), (51, R_51), (52, R_52), (53, R_53), (54, R_54)] := by kernel_rfl
theorem fn_all (V : Vs) : ∀ p ∈ fnT, ∃ o fd, FnOk (mkW V) p.1 p.2 o fd := by
  rw [fnT_eq]
  refine List.forall_mem_cons.mpr ⟨⟨_, _, fnOk_0 V⟩, ?_⟩
  refine List.forall_mem_cons.mpr ⟨⟨_, _, fnOk_1 V⟩, ?_⟩
  refine List.forall_mem_cons.mpr ⟨⟨_, _, fnOk_2 V⟩, ?_⟩
  refine List.forall_mem_cons.mpr ⟨⟨_, _, fnOk_3 V⟩, ?_⟩
  refine List.forall_mem_cons.mpr ⟨⟨_, _, fnOk_4 V⟩, ?_⟩
  refine List.forall_mem_cons.mpr ⟨⟨_, _, fnOk_5 V⟩, ?_⟩
  refine List.forall_mem_cons.mpr ⟨⟨_, _, fnOk_6 V⟩, ?_⟩
  refine List.forall_mem_cons.mpr ⟨⟨_, _, fnOk_7 V⟩, ?_⟩
  refine List.forall_mem_cons.mpr ⟨⟨_, _, fnOk_8 V⟩, ?_⟩
  refine List.forall_mem_cons.mpr ⟨⟨_, _, fnOk_9 V⟩, ?_⟩
  refine List.forall_mem_cons.mpr ⟨⟨_, _, fnOk_10 V⟩, ?_⟩
  refine List.forall_mem_cons.mpr ⟨⟨_, _, fnOk_11 V⟩, ?_⟩
  refine List.forall_mem_cons.mpr ⟨⟨_, _, fnOk_12 V⟩, ?_⟩
  refine List.forall_mem_cons.mpr ⟨⟨_, _, fnOk_13 V⟩, ?_⟩
  refine List.forall_mem_cons.mpr ⟨⟨_, _, fnOk_14 V⟩, ?_⟩
  refine List.forall_mem_cons.mpr ⟨⟨_, _, fnOk_15 V⟩, ?_⟩
  refine List.forall_mem_cons.mpr ⟨⟨_, _, fnOk_16 V⟩, ?_⟩
  refine List.forall_mem_cons.mpr ⟨⟨_, _, fnOk_17 V⟩, ?_⟩
  refine List.forall_mem_cons.mpr ⟨⟨_, _, fnOk_18 V⟩, ?_⟩
  refine List.forall_mem_cons.mpr ⟨⟨_, _, fnOk_19 V⟩, ?_⟩
  refine List.forall_mem_cons.mpr ⟨⟨_, _, fnOk_20 V⟩, ?_⟩
  refine List.forall_mem_cons.mpr ⟨⟨_, _, fnOk_21 V⟩, ?_⟩
  refine List.forall_mem_cons.mpr ⟨⟨_, _, fnOk_22 V⟩, ?_⟩
  refine List.forall_mem_cons.mpr ⟨⟨_, _, fnOk_23 V⟩, ?_⟩
  refine List.forall_mem_cons.mpr ⟨⟨_, _, fnOk_24 V⟩, ?_⟩
  refine List.forall_mem_cons.mpr ⟨⟨_, _, fnOk_25 V⟩, ?_⟩
  refine List.forall_mem_cons.mpr ⟨⟨_, _, fnOk_26 V⟩, ?_⟩
  refine List.forall_mem_cons.mpr ⟨⟨_, _, fnOk_27 V⟩, ?_⟩
  refine List.forall_mem_cons.mpr ⟨⟨_, _, fnOk_28 V⟩, ?_⟩
  refine List.forall_mem_cons.mpr ⟨⟨_, _, fnOk_29 V⟩, ?_⟩
  refine List.forall_mem_cons.mpr ⟨⟨_, _, fnOk_30 V⟩, ?_⟩
  refine List.forall_mem_cons.mpr ⟨⟨_, _, fnOk_31 V⟩, ?_⟩
  refine List.forall_mem_cons.mpr ⟨⟨_, _, fnOk_32 V⟩, ?_⟩
  refine List.forall_mem_cons.mpr ⟨⟨_, _, fnOk_33 V⟩, ?_⟩
  refine List.forall_mem_cons.mpr ⟨⟨_, _, fnOk_34 V⟩, ?_⟩
  refine List.forall_mem_cons.mpr ⟨⟨_, _, fnOk_35 V⟩, ?_⟩
  refine List.forall_mem_cons.mpr ⟨⟨_, _, fnOk_36 V⟩, ?_⟩
  refine List.forall_mem_cons.mpr ⟨⟨_, _, fnOk_37 V⟩, ?_⟩
  refine List.forall_mem_cons.mpr ⟨⟨_, _, fnOk_38 V⟩, ?_⟩
  refine List.forall_mem_cons.mpr ⟨⟨_, _, fnOk_39 V⟩, ?_⟩
  refine List.forall_mem_cons.mpr ⟨⟨_, _, fnOk_40 V⟩, ?_⟩
  refine List.forall_mem_cons.mpr ⟨⟨_, _, fnOk_41 V⟩, ?_⟩
  refine List.forall_mem_cons.mpr ⟨⟨_, _, fnOk_42 V⟩, ?_⟩
  refine List.forall_mem_cons.mpr ⟨⟨_, _, fnOk_43 V⟩, ?_⟩
  refine List.forall_mem_cons.mpr ⟨⟨_, _, fnOk_44 V⟩, ?_⟩
  refine List.forall_mem_cons.mpr ⟨⟨_, _, fnOk_45 V⟩, ?_⟩
  refine List.forall_mem_cons.mpr ⟨⟨_, _, fnOk_46 V⟩, ?_⟩
  refine List.forall_mem_cons.mpr ⟨⟨_, _, fnOk_47 V⟩, ?_⟩
  refine List.forall_mem_cons.mpr ⟨⟨_, _, fnOk_48 V⟩, ?_⟩
  refine List.forall_mem_cons.mpr ⟨⟨_, _, fnOk_49 V⟩, ?_⟩
  refine List.forall_mem_cons.mpr ⟨⟨_, _, fnOk_50 V⟩, ?_⟩
  refine List.forall_mem_cons.mpr ⟨⟨_, _, fnOk_51 V⟩, ?_⟩
  refine List.forall_mem_cons.mpr ⟨⟨_, _, fnOk_52 V⟩, ?_⟩
  refine List.forall_mem_cons.mpr ⟨⟨_, _, fnOk_53 V⟩, ?_⟩
  refine List.forall_mem_cons.mpr ⟨⟨_, _, fnOk_54 V⟩, ?_⟩
  exact fun p hp => nomatch hp
end Mine
end

section
set_option maxRecDepth 100000
namespace Mine
open PySem PySem.W PyProof.Rows PySem.Calls PySem.SeqAt
theorem fns_keep (P : Params) : (fAl.all fun p => keepIn (hd.heap_39 P) (.ref p.2)) = true := by kernel_rfl
theorem cls_keep (P : Params) : (cAl.all fun p => keepIn (hd.heap_39 P) (.ref p.2)) = true := by kernel_rfl
theorem fnk_all (P : Params) (k : Nat) : keepIn (hd.heap_39 P) (.ref (fAd k)) = true := by
  unfold fAd
  cases z : aget fAl k with
  | none => exact (fnP_3 P).keep
  | some a => exact List.all_eq_true.mp (fns_keep P) _ (aget_mem z)
theorem clk_all (P : Params) (k : Nat) : keepIn (hd.heap_39 P) (.ref (cAd k)) = true := by
  unfold cAd
  cases z : aget cAl k with
  | none => exact (cl_0 P).1
  | some a => exact List.all_eq_true.mp (cls_keep P) _ (aget_mem z)
theorem bik_all (k : Nat) : (∃ id, bVd k = .builtin id) ∨ ∃ T, bVd k = .type T := by
  unfold bVd
  split <;> first | exact .inl ⟨_, rfl⟩ | exact .inr ⟨_, rfl⟩
theorem gl_all (V : Vs) : ∀ q ∈ gT, (∃ val, nsIn (hd.heap_39 V.w.params) mainGlobals (nm q.1) = some (some val) ∧ ∀ ρ, VR (gm V.u) ρ q.2 val) ∨ (nsIn (hd.heap_39 V.w.params) mainGlobals (nm q.1) = some none ∧ nm q.1 ≠ "__name__" ∧ ∃ val, bootBuiltins (nm q.1) = some val ∧ ∀ ρ, VR (gm V.u) ρ q.2 val) := by
  unfold gT
  refine List.forall_mem_cons.mpr ⟨.inl ⟨_, gl_120 _, fun ρ => VR.fn (G := gm V.u) (ρ := ρ) 3⟩, ?_⟩
  refine List.forall_mem_cons.mpr ⟨.inl ⟨_, gl_121 _, fun ρ => VR.fn (G := gm V.u) (ρ := ρ) 4⟩, ?_⟩
  refine List.forall_mem_cons.mpr ⟨.inl ⟨_, gl_118 _, fun ρ => VR.fn (G := gm V.u) (ρ := ρ) 5⟩, ?_⟩
  refine List.forall_mem_cons.mpr ⟨.inl ⟨_, gl_19 _, fun ρ => VR.fn (G := gm V.u) (ρ := ρ) 6⟩, ?_⟩
  refine List.forall_mem_cons.mpr ⟨.inl ⟨_, gl_18 _, fun ρ => VR.fn (G := gm V.u) (ρ := ρ) 7⟩, ?_⟩
  refine List.forall_mem_cons.mpr ⟨.inl ⟨_, gl_28 _, fun ρ => VR.fn (G := gm V.u) (ρ := ρ) 8⟩, ?_⟩
  refine List.forall_mem_cons.mpr ⟨.inl ⟨_, gl_25 _, fun ρ => VR.fn (G := gm V.u) (ρ := ρ) 9⟩, ?_⟩
  refine List.forall_mem_cons.mpr ⟨.inl ⟨_, gl_26 _, fun ρ => VR.fn (G := gm V.u) (ρ := ρ) 10⟩, ?_⟩
  refine List.forall_mem_cons.mpr ⟨.inl ⟨_, gl_27 _, fun ρ => VR.fn (G := gm V.u) (ρ := ρ) 11⟩, ?_⟩
  refine List.forall_mem_cons.mpr ⟨.inl ⟨_, gl_111 _, fun ρ => VR.fn (G := gm V.u) (ρ := ρ) 12⟩, ?_⟩
  refine List.forall_mem_cons.mpr ⟨.inl ⟨_, gl_123 _, fun ρ => VR.fn (G := gm V.u) (ρ := ρ) 13⟩, ?_⟩
  refine List.forall_mem_cons.mpr ⟨.inl ⟨_, gl_124 _, fun ρ => VR.fn (G := gm V.u) (ρ := ρ) 14⟩, ?_⟩
  refine List.forall_mem_cons.mpr ⟨.inl ⟨_, gl_38 _, fun ρ => VR.fn (G := gm V.u) (ρ := ρ) 15⟩, ?_⟩
  refine List.forall_mem_cons.mpr ⟨.inl ⟨_, gl_36 _, fun ρ => VR.fn (G := gm V.u) (ρ := ρ) 16⟩, ?_⟩
  refine List.forall_mem_cons.mpr ⟨.inl ⟨_, gl_127 _, fun ρ => VR.fn (G := gm V.u) (ρ := ρ) 17⟩, ?_⟩
  refine List.forall_mem_cons.mpr ⟨.inl ⟨_, gl_125 _, fun ρ => VR.fn (G := gm V.u) (ρ := ρ) 18⟩, ?_⟩
  refine List.forall_mem_cons.mpr ⟨.inl ⟨_, gl_119 _, fun ρ => VR.fn (G := gm V.u) (ρ := ρ) 19⟩, ?_⟩
  refine List.forall_mem_cons.mpr ⟨.inl ⟨_, gl_51 _, fun ρ => VR.fn (G := gm V.u) (ρ := ρ) 23⟩, ?_⟩
  refine List.forall_mem_cons.mpr ⟨.inl ⟨_, gl_52 _, fun ρ => VR.fn (G := gm V.u) (ρ := ρ) 24⟩, ?_⟩
  refine List.forall_mem_cons.mpr ⟨.inl ⟨_, gl_106 _, fun ρ => VR.fn (G := gm V.u) (ρ := ρ) 25⟩, ?_⟩
  refine List.forall_mem_cons.mpr ⟨.inl ⟨_, gl_90 _, fun ρ => VR.fn (G := gm V.u) (ρ := ρ) 26⟩, ?_⟩
  refine List.forall_mem_cons.mpr ⟨.inl ⟨_, gl_94 _, fun ρ => VR.fn (G := gm V.u) (ρ := ρ) 27⟩, ?_⟩
  refine List.forall_mem_cons.mpr ⟨.inl ⟨_, gl_108 _, fun ρ => VR.fn (G := gm V.u) (ρ := ρ) 44⟩, ?_⟩
  refine List.forall_mem_cons.mpr ⟨.inl ⟨_, gl_100 _, fun ρ => VR.fn (G := gm V.u) (ρ := ρ) 45⟩, ?_⟩
  refine List.forall_mem_cons.mpr ⟨.inl ⟨_, gl_107 _, fun ρ => VR.fn (G := gm V.u) (ρ := ρ) 46⟩, ?_⟩
  refine List.forall_mem_cons.mpr ⟨.inl ⟨_, gl_129 _, fun ρ => VR.fn (G := gm V.u) (ρ := ρ) 47⟩, ?_⟩
  refine List.forall_mem_cons.mpr ⟨.inl ⟨_, gl_128 _, fun ρ => VR.fn (G := gm V.u) (ρ := ρ) 48⟩, ?_⟩
  refine List.forall_mem_cons.mpr ⟨.inl ⟨_, gl_113 _, fun ρ => VR.fn (G := gm V.u) (ρ := ρ) 49⟩, ?_⟩
  refine List.forall_mem_cons.mpr ⟨.inl ⟨_, gl_114 _, fun ρ => VR.fn (G := gm V.u) (ρ := ρ) 50⟩, ?_⟩
  refine List.forall_mem_cons.mpr ⟨.inl ⟨_, gl_112 _, fun ρ => VR.fn (G := gm V.u) (ρ := ρ) 51⟩, ?_⟩
  refine List.forall_mem_cons.mpr ⟨.inl ⟨_, gl_132 _, fun ρ => VR.fn (G := gm V.u) (ρ := ρ) 52⟩, ?_⟩
  refine List.forall_mem_cons.mpr ⟨.inl ⟨_, gl_135 _, fun ρ => VR.fn (G := gm V.u) (ρ := ρ) 53⟩, ?_⟩
  refine List.forall_mem_cons.mpr ⟨.inl ⟨_, gl_139 _, fun ρ => VR.fn (G := gm V.u) (ρ := ρ) 54⟩, ?_⟩
  refine List.forall_mem_cons.mpr ⟨.inl ⟨_, gl_29 _, fun ρ => VR.cls (G := gm V.u) (ρ := ρ) 0⟩, ?_⟩
  refine List.forall_mem_cons.mpr ⟨.inl ⟨_, gl_98 _, fun ρ => VR.cls (G := gm V.u) (ρ := ρ) 1⟩, ?_⟩
  refine List.forall_mem_cons.mpr ⟨.inl ⟨_, gl_55 _, fun ρ => VR.cls (G := gm V.u) (ρ := ρ) 2⟩, ?_⟩
  refine List.forall_mem_cons.mpr ⟨.inl ⟨_, gl_89 _, fun ρ => VR.cls (G := gm V.u) (ρ := ρ) 3⟩, ?_⟩
  refine List.forall_mem_cons.mpr ⟨.inl ⟨_, gl_17 _, fun ρ => VR.cls (G := gm V.u) (ρ := ρ) 1000⟩, ?_⟩
  refine List.forall_mem_cons.mpr ⟨.inr ⟨(gl_30 V.w.params).1, nm_name _, _, (gl_30 V.w.params).2, fun ρ => VR.bi (G := gm V.u) (ρ := ρ) 0⟩, ?_⟩
  refine List.forall_mem_cons.mpr ⟨.inr ⟨(gl_50 V.w.params).1, nm_name _, _, (gl_50 V.w.params).2, fun ρ => VR.bi (G := gm V.u) (ρ := ρ) 1⟩, ?_⟩
  refine List.forall_mem_cons.mpr ⟨.inr ⟨(gl_35 V.w.params).1, nm_name _, _, (gl_35 V.w.params).2, fun ρ => VR.bi (G := gm V.u) (ρ := ρ) 2⟩, ?_⟩
  refine List.forall_mem_cons.mpr ⟨.inr ⟨(gl_58 V.w.params).1, nm_name _, _, (gl_58 V.w.params).2, fun ρ => VR.bi (G := gm V.u) (ρ := ρ) 3⟩, ?_⟩
  refine List.forall_mem_cons.mpr ⟨.inr ⟨(gl_42 V.w.params).1, nm_name _, _, (gl_42 V.w.params).2, fun ρ => VR.bi (G := gm V.u) (ρ := ρ) 4⟩, ?_⟩
  refine List.forall_mem_cons.mpr ⟨.inr ⟨(gl_37 V.w.params).1, nm_name _, _, (gl_37 V.w.params).2, fun ρ => VR.bi (G := gm V.u) (ρ := ρ) 5⟩, ?_⟩
  refine List.forall_mem_cons.mpr ⟨.inr ⟨(gl_126 V.w.params).1, nm_name _, _, (gl_126 V.w.params).2, fun ρ => VR.bi (G := gm V.u) (ρ := ρ) 6⟩, ?_⟩
  refine List.forall_mem_cons.mpr ⟨.inr ⟨(gl_103 V.w.params).1, nm_name _, _, (gl_103 V.w.params).2, fun ρ => VR.bi (G := gm V.u) (ρ := ρ) 7⟩, ?_⟩
  refine List.forall_mem_cons.mpr ⟨.inr ⟨(gl_104 V.w.params).1, nm_name _, _, (gl_104 V.w.params).2, fun ρ => VR.bi (G := gm V.u) (ρ := ρ) 8⟩, ?_⟩
  refine List.forall_mem_cons.mpr ⟨.inr ⟨(gl_131 V.w.params).1, nm_name _, _, (gl_131 V.w.params).2, fun ρ => VR.bi (G := gm V.u) (ρ := ρ) 9⟩, ?_⟩
  refine List.forall_mem_cons.mpr ⟨.inr ⟨(gl_134 V.w.params).1, nm_name _, _, (gl_134 V.w.params).2, fun ρ => VR.bi (G := gm V.u) (ρ := ρ) 10⟩, ?_⟩
  refine List.forall_mem_cons.mpr ⟨.inr ⟨(gl_138 V.w.params).1, nm_name _, _, (gl_138 V.w.params).2, fun ρ => VR.bi (G := gm V.u) (ρ := ρ) 11⟩, ?_⟩
  refine List.forall_mem_cons.mpr ⟨.inl ⟨_, gl_20 _, fun ρ => VR.str _ _⟩, ?_⟩
  refine List.forall_mem_cons.mpr ⟨.inl ⟨_, gl_39 _, fun ρ => VR.int _ _⟩, ?_⟩
  refine List.forall_mem_cons.mpr ⟨.inl ⟨_, gl_40 _, fun ρ => VR.int _ _⟩, ?_⟩
  refine List.forall_mem_cons.mpr ⟨.inl ⟨_, gl_16 _, fun ρ => VR.int _ _⟩, ?_⟩
  refine List.forall_mem_cons.mpr ⟨.inl ⟨_, gl_44 _, fun ρ => VR.str _ _⟩, ?_⟩
  refine List.forall_mem_cons.mpr ⟨.inl ⟨_, gl_99 _, fun ρ => VR.str _ _⟩, ?_⟩
  refine List.forall_mem_cons.mpr ⟨.inl ⟨_, gl_96 _, fun ρ => VR.str _ _⟩, ?_⟩
  refine List.forall_mem_cons.mpr ⟨.inl ⟨_, gl_59 _, fun ρ => VR.str _ _⟩, ?_⟩
  refine List.forall_mem_cons.mpr ⟨.inl ⟨_, gl_53 _, fun ρ => VR.str _ _⟩, ?_⟩
  refine List.forall_mem_cons.mpr ⟨.inl ⟨_, gl_49 _, fun ρ => VR.str _ _⟩, ?_⟩
  refine List.forall_mem_cons.mpr ⟨.inl ⟨_, gl_101 _, fun ρ => VR.int _ _⟩, ?_⟩
  refine List.forall_mem_cons.mpr ⟨.inl ⟨_, gl_88 _, fun ρ => VR.int _ _⟩, ?_⟩
  refine List.forall_mem_cons.mpr ⟨.inl ⟨_, gl_95 _, fun ρ => VR.int _ _⟩, ?_⟩
  exact fun p hp => nomatch hp
noncomputable def C_0 : ClsRec := ⟨0, [0, 2, 3, 4, 5, 6, 7, 8, 9, 10, 11], [(14, 1), (117, 2)]⟩
theorem ats_0 (P : Params) : ∀ n ∈ C_0.attrs, findIn (hd.heap_39 P) (.ref (cAd 0)) (nm n) = some none ∧ takerIn (hd.heap_39 P) (cAd 0) (nm n) = some none := by
  show ∀ n ∈ [0, 2, 3, 4, 5, 6, 7, 8, 9, 10, 11], _
  refine List.forall_mem_cons.mpr ⟨at_0_0 P, ?_⟩
  refine List.forall_mem_cons.mpr ⟨at_0_2 P, ?_⟩
  refine List.forall_mem_cons.mpr ⟨at_0_3 P, ?_⟩
  refine List.forall_mem_cons.mpr ⟨at_0_4 P, ?_⟩
  refine List.forall_mem_cons.mpr ⟨at_0_5 P, ?_⟩
  refine List.forall_mem_cons.mpr ⟨at_0_6 P, ?_⟩
  refine List.forall_mem_cons.mpr ⟨at_0_7 P, ?_⟩
  refine List.forall_mem_cons.mpr ⟨at_0_8 P, ?_⟩
  refine List.forall_mem_cons.mpr ⟨at_0_9 P, ?_⟩
  refine List.forall_mem_cons.mpr ⟨at_0_10 P, ?_⟩
  refine List.forall_mem_cons.mpr ⟨at_0_11 P, ?_⟩
  exact fun p hp => nomatch hp
theorem mes_0 (P : Params) : ∀ q ∈ C_0.meths, findIn (hd.heap_39 P) (.ref (cAd 0)) (nm q.1) = some (some (.ref (fAd q.2))) ∧ isFn (hd.heap_39 P) (.ref (fAd q.2)) = true ∧ keepIn (hd.heap_39 P) (.ref (fAd q.2)) = true := by
  show ∀ q ∈ [(14, 1), (117, 2)], _
  refine List.forall_mem_cons.mpr ⟨⟨me_0_14 P, (fnP_1 P).fn, (fnP_1 P).keep⟩, ?_⟩
  refine List.forall_mem_cons.mpr ⟨⟨me_0_117 P, (fnP_2 P).fn, (fnP_2 P).keep⟩, ?_⟩
  exact fun p hp => nomatch hp
theorem clsOk_0 (V : Vs) : ClsOk (mkW V) 0 C_0 :=
  let ⟨k1, k2, k3, k4, k5, k6, k7, k8⟩ := cl_0 V.w.params
  ⟨k1, k2, k3, k4, k5, k6, k7, k8, fun n h => (ats_0 _ n (by rw [nelem_iff, decide_eq_true_eq] at h; exact h)).1, fun n h => (ats_0 _ n (by rw [nelem_iff, decide_eq_true_eq] at h; exact h)).2, fun n k h => mes_0 _ (n, k) (aget_mem h)⟩
noncomputable def C_1 : ClsRec := ⟨20, [41, 22, 0, 9, 10, 11, 2], [(14, 21)]⟩
theorem ats_1 (P : Params) : ∀ n ∈ C_1.attrs, findIn (hd.heap_39 P) (.ref (cAd 1)) (nm n) = some none ∧ takerIn (hd.heap_39 P) (cAd 1) (nm n) = some none := by
  show ∀ n ∈ [41, 22, 0, 9, 10, 11, 2], _
  refine List.forall_mem_cons.mpr ⟨at_1_41 P, ?_⟩
  refine List.forall_mem_cons.mpr ⟨at_1_22 P, ?_⟩
  refine List.forall_mem_cons.mpr ⟨at_1_0 P, ?_⟩
  refine List.forall_mem_cons.mpr ⟨at_1_9 P, ?_⟩
  refine List.forall_mem_cons.mpr ⟨at_1_10 P, ?_⟩
  refine List.forall_mem_cons.mpr ⟨at_1_11 P, ?_⟩
  refine List.forall_mem_cons.mpr ⟨at_1_2 P, ?_⟩
  exact fun p hp => nomatch hp
theorem mes_1 (P : Params) : ∀ q ∈ C_1.meths, findIn (hd.heap_39 P) (.ref (cAd 1)) (nm q.1) = some (some (.ref (fAd q.2))) ∧ isFn (hd.heap_39 P) (.ref (fAd q.2)) = true ∧ keepIn (hd.heap_39 P) (.ref (fAd q.2)) = true := by
  show ∀ q ∈ [(14, 21)], _
  refine List.forall_mem_cons.mpr ⟨⟨me_1_14 P, (fnP_21 P).fn, (fnP_21 P).keep⟩, ?_⟩
  exact fun p hp => nomatch hp
theorem clsOk_1 (V : Vs) : ClsOk (mkW V) 1 C_1 :=
  let ⟨k1, k2, k3, k4, k5, k6, k7, k8⟩ := cl_1 V.w.params
  ⟨k1, k2, k3, k4, k5, k6, k7, k8, fun n h => (ats_1 _ n (by rw [nelem_iff, decide_eq_true_eq] at h; exact h)).1, fun n h => (ats_1 _ n (by rw [nelem_iff, decide_eq_true_eq] at h; exact h)).2, fun n k h => mes_1 _ (n, k) (aget_mem h)⟩
noncomputable def C_2 : ClsRec := ⟨22, [5, 23, 43], []⟩
theorem ats_2 (P : Params) : ∀ n ∈ C_2.attrs, findIn (hd.heap_39 P) (.ref (cAd 2)) (nm n) = some none ∧ takerIn (hd.heap_39 P) (cAd 2) (nm n) = some none := by
  show ∀ n ∈ [5, 23, 43], _
  refine List.forall_mem_cons.mpr ⟨at_2_5 P, ?_⟩
  refine List.forall_mem_cons.mpr ⟨at_2_23 P, ?_⟩
  refine List.forall_mem_cons.mpr ⟨at_2_43 P, ?_⟩
  exact fun p hp => nomatch hp
theorem mes_2 (P : Params) : ∀ q ∈ C_2.meths, findIn (hd.heap_39 P) (.ref (cAd 2)) (nm q.1) = some (some (.ref (fAd q.2))) ∧ isFn (hd.heap_39 P) (.ref (fAd q.2)) = true ∧ keepIn (hd.heap_39 P) (.ref (fAd q.2)) = true := by
  show ∀ q ∈ [], _
  exact fun p hp => nomatch hp
theorem clsOk_2 (V : Vs) : ClsOk (mkW V) 2 C_2 :=
  let ⟨k1, k2, k3, k4, k5, k6, k7, k8⟩ := cl_2 V.w.params
  ⟨k1, k2, k3, k4, k5, k6, k7, k8, fun n h => (ats_2 _ n (by rw [nelem_iff, decide_eq_true_eq] at h; exact h)).1, fun n h => (ats_2 _ n (by rw [nelem_iff, decide_eq_true_eq] at h; exact h)).2, fun n k h => mes_2 _ (n, k) (aget_mem h)⟩
noncomputable def C_3 : ClsRec := ⟨28, [60, 61, 62, 63, 64, 65, 66, 67, 68, 69, 70, 5, 71, 72, 73, 74], [(9, 29), (77, 30), (81, 31), (82, 32), (83, 33), (84, 34), (87, 35), (78, 36), (79, 37), (85, 38), (86, 39), (80, 40), (92, 41), (93, 42), (10, 43)]⟩
theorem ats_3 (P : Params) : ∀ n ∈ C_3.attrs, findIn (hd.heap_39 P) (.ref (cAd 3)) (nm n) = some none ∧ takerIn (hd.heap_39 P) (cAd 3) (nm n) = some none := by
  show ∀ n ∈ [60, 61, 62, 63, 64, 65, 66, 67, 68, 69, 70, 5, 71, 72, 73, 74], _
  refine List.forall_mem_cons.mpr ⟨at_3_60 P, ?_⟩
  refine List.forall_mem_cons.mpr ⟨at_3_61 P, ?_⟩
  refine List.forall_mem_cons.mpr ⟨at_3_62 P, ?_⟩
  refine List.forall_mem_cons.mpr ⟨at_3_63 P, ?_⟩
  refine List.forall_mem_cons.mpr ⟨at_3_64 P, ?_⟩
  refine List.forall_mem_cons.mpr ⟨at_3_65 P, ?_⟩
  refine List.forall_mem_cons.mpr ⟨at_3_66 P, ?_⟩
  refine List.forall_mem_cons.mpr ⟨at_3_67 P, ?_⟩
  refine List.forall_mem_cons.mpr ⟨at_3_68 P, ?_⟩
  refine List.forall_mem_cons.mpr ⟨at_3_69 P, ?_⟩
  refine List.forall_mem_cons.mpr ⟨at_3_70 P, ?_⟩
  refine List.forall_mem_cons.mpr ⟨at_3_5 P, ?_⟩
  refine List.forall_mem_cons.mpr ⟨at_3_71 P, ?_⟩
  refine List.forall_mem_cons.mpr ⟨at_3_72 P, ?_⟩
  refine List.forall_mem_cons.mpr ⟨at_3_73 P, ?_⟩
  refine List.forall_mem_cons.mpr ⟨at_3_74 P, ?_⟩
  exact fun p hp => nomatch hp
theorem mes_3 (P : Params) : ∀ q ∈ C_3.meths, findIn (hd.heap_39 P) (.ref (cAd 3)) (nm q.1) = some (some (.ref (fAd q.2))) ∧ isFn (hd.heap_39 P) (.ref (fAd q.2)) = true ∧ keepIn (hd.heap_39 P) (.ref (fAd q.2)) = true := by
  show ∀ q ∈ [(9, 29), (77, 30), (81, 31), (82, 32), (83, 33), (84, 34), (87, 35), (78, 36), (79, 37), (85, 38), (86, 39), (80, 40), (92, 41), (93, 42), (10, 43)], _
  refine List.forall_mem_cons.mpr ⟨⟨me_3_9 P, (fnP_29 P).fn, (fnP_29 P).keep⟩, ?_⟩
  refine List.forall_mem_cons.mpr ⟨⟨me_3_77 P, (fnP_30 P).fn, (fnP_30 P).keep⟩, ?_⟩
  refine List.forall_mem_cons.mpr ⟨⟨me_3_81 P, (fnP_31 P).fn, (fnP_31 P).keep⟩, ?_⟩
  refine List.forall_mem_cons.mpr ⟨⟨me_3_82 P, (fnP_32 P).fn, (fnP_32 P).keep⟩, ?_⟩
  refine List.forall_mem_cons.mpr ⟨⟨me_3_83 P, (fnP_33 P).fn, (fnP_33 P).keep⟩, ?_⟩
  refine List.forall_mem_cons.mpr ⟨⟨me_3_84 P, (fnP_34 P).fn, (fnP_34 P).keep⟩, ?_⟩
  refine List.forall_mem_cons.mpr ⟨⟨me_3_87 P, (fnP_35 P).fn, (fnP_35 P).keep⟩, ?_⟩
  refine List.forall_mem_cons.mpr ⟨⟨me_3_78 P, (fnP_36 P).fn, (fnP_36 P).keep⟩, ?_⟩
  refine List.forall_mem_cons.mpr ⟨⟨me_3_79 P, (fnP_37 P).fn, (fnP_37 P).keep⟩, ?_⟩
  refine List.forall_mem_cons.mpr ⟨⟨me_3_85 P, (fnP_38 P).fn, (fnP_38 P).keep⟩, ?_⟩
  refine List.forall_mem_cons.mpr ⟨⟨me_3_86 P, (fnP_39 P).fn, (fnP_39 P).keep⟩, ?_⟩
  refine List.forall_mem_cons.mpr ⟨⟨me_3_80 P, (fnP_40 P).fn, (fnP_40 P).keep⟩, ?_⟩
  refine List.forall_mem_cons.mpr ⟨⟨me_3_92 P, (fnP_41 P).fn, (fnP_41 P).keep⟩, ?_⟩
  refine List.forall_mem_cons.mpr ⟨⟨me_3_93 P, (fnP_42 P).fn, (fnP_42 P).keep⟩, ?_⟩
  refine List.forall_mem_cons.mpr ⟨⟨me_3_10 P, (fnP_43 P).fn, (fnP_43 P).keep⟩, ?_⟩
  exact fun p hp => nomatch hp
theorem clsOk_3 (V : Vs) : ClsOk (mkW V) 3 C_3 :=
  let ⟨k1, k2, k3, k4, k5, k6, k7, k8⟩ := cl_3 V.w.params
  ⟨k1, k2, k3, k4, k5, k6, k7, k8, fun n h => (ats_3 _ n (by rw [nelem_iff, decide_eq_true_eq] at h; exact h)).1, fun n h => (ats_3 _ n (by rw [nelem_iff, decide_eq_true_eq] at h; exact h)).2, fun n k h => mes_3 _ (n, k) (aget_mem h)⟩
theorem clsT_eq : clsT = [(0, C_0), (1, C_1), (2, C_2), (3, C_3)] := by rfl
theorem cls_all (V : Vs) : ∀ p ∈ clsT, ClsOk (mkW V) p.1 p.2 := by
  rw [clsT_eq]
  refine List.forall_mem_cons.mpr ⟨clsOk_0 V, ?_⟩
  refine List.forall_mem_cons.mpr ⟨clsOk_1 V, ?_⟩
  refine List.forall_mem_cons.mpr ⟨clsOk_2 V, ?_⟩
  refine List.forall_mem_cons.mpr ⟨clsOk_3 V, ?_⟩
  exact fun p hp => nomatch hp
theorem sta (V : Vs) (h1 : V.tb.fnT = fnT) (h2 : V.tb.clsT = clsT) (h3 : V.tb.gT = gT) (X : (hd.heap_39 V.w.params).In V.h₀) (T : TopRead V.p V.loose V.mg V.mb V.h₀) (F : Fit (gm V.u) V.tb) : Sta (mkW V) where
  X₀ := X
  T := T
  fit := F
  nd := nm_debug
  ns := nm_super
  glob := fun x v e => gl_all V (x, v) (aget_mem (by rw [← h3]; exact e))
  fnk := fnk_all _
  fn := fun k R e => fn_all V (k, R) (aget_mem (by rw [← h1]; exact e))
  clk := clk_all _
  bik := bik_all
  cls := fun c R e => cls_all V (c, R) (aget_mem (by rw [← h2]; exact e))
end Mine
end

section
set_option maxRecDepth 100000
namespace Mine
open PySem PySem.W PyProof.Rows PySem.Calls PySem.SeqAt
/-! the program's exception: its class, its making -/
noncomputable def cdE (P : Params) : ClassData := match (obOf P 65).data with | .cls cd => cd | _ => default
noncomputable def slE (P : Params) (i : Nat) : Option Value := (obOf P 65).slots.toList.getD i none
noncomputable def bmE : List Value := [.ref 40, .type "Exception", .type "BaseException", .type "object"]
noncomputable def exE (P : Params) : Obj := excClassObj (cdE P).name (cdE P).qualname 65 (cdE P).ns (cdE P).bases bmE (cdE P).hasDict (cdE P).slotNames (cdE P).subclasses (cdE P).abstract (cdE P).collection (obOf P 65).dict (slE P 0) (slE P 1) (slE P 2) (slE P 3) (slE P 5) "Exception.__new__"
theorem exE_at (P : Params) : (hd.heap_39 P).lookup 65 = some (exE P) := by kernel_rfl
theorem exE_init (P : Params) : findIn (hd.heap_39 P) (.ref 65) "__init__" = some (some (.ref 30)) := by kernel_rfl
theorem exE_fn (P : Params) : isFn (hd.heap_39 P) (.ref 30) = true := by kernel_rfl
theorem exE_keep (P : Params) : keepIn (hd.heap_39 P) (.ref 65) = true := by kernel_rfl
theorem exE_set (P : Params) : findIn (hd.heap_39 P) (.ref 65) "__setattr__" = some (some (.builtin "object.__setattr__")) := by kernel_rfl
theorem exE_dict (P : Params) : hasDictIn (hd.heap_39 P) 65 = true := by kernel_rfl
theorem exE_pass (self : Value) : refuseLoop self "__setattr__" [.type "Exception", .type "BaseException", .type "object"] = pure () := by kernel_rfl
theorem exE_what (P : Params) : takerIn (hd.heap_39 P) 65 (nm v_what) = some none ∧ takerIn (hd.heap_39 P) 65 (nm v_at) = some none := ⟨by kernel_rfl, by kernel_rfl⟩
theorem exE_meth (P : Params) : findCls (hd.heap_39 P) (.type "Exception") (.type "type") (nm v_init) = some (.val (.builtin "Exception.__init__")) := by kernel_rfl
theorem exE_glb (P : Params) : nsIn (hd.heap_39 P) mainGlobals (nm v_Exception) = some none ∧ bootBuiltins (nm v_Exception) = some (.type "Exception") := ⟨by kernel_rfl, by kernel_rfl⟩
theorem excCls (V : Vs) (X : (hd.heap_39 V.w.params).In V.h₀) : ExcCls (mkW V) where
  cA := by show cAd 1000 = 65; decide +kernel
  keep := exE_keep _
  obj := ⟨_, _, _, _, _, _, _, _, _, _, _, _, _, _, _, _, _, X _ _ (exE_at V.w.params), by decide +kernel⟩
section
variable {prog : Program} {w : World} {A : Around} {R : Result → Shared → Prop} {E : Value → Shared → Prop} {h : Heap} {g : Array GenState} {d : Drawn} {t : Nat} {os : OsState}
variable {nm q : PySem.Str} {C N : Addr} {bs bm : List Value} {hdct : Bool} {sn : List PySem.Str} {sub : List Value} {ab : Bool} {col : Option Bool} {dd : Option Addr} {k0 k1 k2 k3 k5 : Option Value}
/-- a class whose line holds Exception, and neither AttributeError nor NameError -/
structure LineE (bm : List Value) : Prop where
  ex : bm.contains (.type "Exception") = true
  at_ : bm.contains (.type "AttributeError") = false
  na : bm.contains (.type "NameError") = false
theorem newE (B : LineE bm) {rest : List Value} (hC : h.get? C = some (excClassObj nm q C N bs bm hdct sn sub ab col dd k0 k1 k2 k3 k5 "Exception.__new__"))
    (hq : R (.ok (.ret (.ref (h.objs.size + 1)))) ⟨(h.push { cls := .type "tuple", data := .seq rest.toArray }).push
      { cls := .ref C, data := .fields #[.ref h.objs.size, .none, .none, .none, .bool false, .none] }, g, d, t, os⟩) (hrest : rest.length ≤ sizeLine) :
    codeAny (model prog w) A (.builtin "Exception.__new__" ⟨.ref C :: rest, []⟩) R ⟨h, g, d, t, os⟩ := by
  have Fx := PySem.F.excBase_Exception
  have hends := Fx.ends
  have c1 : (Value.ref C :: bm).contains (.type "Exception") = true := by rw [List.contains_cons, B.ex, Bool.or_true]
  have c2 : (Value.ref C :: bm).contains (.type "AttributeError") = false := by rw [List.contains_cons, B.at_]; rfl
  have c3 : (Value.ref C :: bm).contains (.type "NameError") = false := by rw [List.contains_cons, B.na]; rfl
  refine codeAny_builtinAt Fx.entry ?_
  unfold Builtin.«BaseException.__new__»
  refine PySem.wpAt_bind ?_
  show PySem.wpAt _ _ _ (stack >>= _) _ _ _
  refine PySem.wpAt_bind (PySem.wpAt_stack fun p below => PySem.wpAt_of_wpAny ?_)
  wp_walk
  refine PySem.wpAt_of_wpAny ?_
  rw [Fx.owner]
  repeat (first | with_reducible refine wpAny_madeHere_exc Fx.canon hC ?_ | with_reducible refine wpAny_loadPart_at hC ?_ | (with_reducible refine wpAny_isSubtype_exc hC ?_; first | rw [c1] | rw [c2] | rw [c3]) | wp_step)
  show R _ _
  rw [Heap.size_push]
  exact hq
/-- the check ahead of Exception.__init__ -/
theorem chkE (B : LineE bm) {M : Model} {e : Addr} {oe : Obj} {rest : List Value} {Q : Unit → Shared → Prop}
    (hC : h.get? C = some (excClassObj nm q C N bs bm hdct sn sub ab col dd k0 k1 k2 k3 k5 "Exception.__new__")) (he : h.get? e = some oe) (hcls : oe.cls = .ref C) (hq : Q () ⟨h, g, d, t, os⟩) :
    wpAny M A (checkBuiltinCall "Exception.__init__" ⟨.ref e :: rest, []⟩) Q E ⟨h, g, d, t, os⟩ := by
  have Fx := PySem.F.excBase_Exception
  have c1 : (Value.ref C :: bm).contains (.type "Exception") = true := by rw [List.contains_cons, B.ex, Bool.or_true]
  have hshort := Fx.noStar
  simp only [checkBuiltinCall, Fx.initKind, Fx.initSplit, Fx.initRow]
  repeat (first | (with_reducible refine wpAny_loadPart_at he ?_; rw [hcls]) | with_reducible refine wpAny_loadPart_at hC ?_ | (with_reducible refine wpAny_isSubtype_exc hC ?_; rw [c1]) | wp_step)
  refine wpAny_onRaise ?_
  have e0 : ∀ (a b : String) (n : Nat), Bind.check ⟨.positional, "*", "Exception", .self, [⟨"args", .varPos, false⟩]⟩ a b n (List.map (fun x => x.fst) ({ pos := Value.ref e :: rest } : Args).kw) = pure () := fun a b n => check_star_args _ _ _ _ _ _
  rw [e0]
  exact wpAny_pure hq
/-- Exception.__init__ of an exception of ours -/
theorem initE (B : LineE bm) {e : Addr} {t0 : Addr} {f1 f2 f3 f4 f5 : Value} {rest : List Value} {Q : Value → Shared → Prop}
    (hC : h.get? C = some (excClassObj nm q C N bs bm hdct sn sub ab col dd k0 k1 k2 k3 k5 "Exception.__new__")) (he : h.get? e = some { cls := .ref C, data := .fields #[.ref t0, f1, f2, f3, f4, f5] }) (hrest : rest.length ≤ sizeLine)
    (hq : ∀ h', h'.get? e = some { cls := .ref C, data := .fields #[.ref h.objs.size, f1, f2, f3, f4, f5] } → (∀ b o, b ≠ e → h.get? b = some o → h'.get? b = some o) → Q .none ⟨h', g, d, t, os⟩) :
    wpAny (model prog w) A (call (.builtin "Exception.__init__") (.ref e :: rest)) Q E ⟨h, g, d, t, os⟩ := by
  have Fx := PySem.F.excBase_Exception
  refine wpAny_call (codeAny_call_builtin Fx.init.plain Fx.initEntry (chkE B hC he rfl ?_))
  have he2 : (h.push { cls := .type "tuple", data := .seq rest.toArray }).get? e = some { cls := .ref C, data := .fields #[.ref t0, f1, f2, f3, f4, f5] } := Heap.get?_push_of_some _ he
  have hne : e ≠ h.objs.size := Nat.ne_of_lt (Heap.lt_size he)
  show wpAny _ _ (newTuple rest >>= fun t => Builtin.BaseException.bexcPut (.ref e) 0 t >>= fun _ => ret .none) _ _ _
  refine wpAny_bind (wpAny_newObj_type ?_ (by show rest.toArray.size ≤ sizeLine; rw [List.size_toArray]; exact hrest))
  dsimp only
  unfold Builtin.BaseException.bexcPut
  refine wpAny_bind (wpAny_bind (wpAny_field (s := ⟨_, g, d, t, os⟩) he2 rfl (x := .ref t0) rfl (wpAny_bind (wpAny_setField_rec (s := ⟨_, g, d, t, os⟩) he2 (by simp) fun h' he' hs => ?_))))
  refine wpAny_letGo (wpAny_pure (hq h' he' fun b o hb e => ?_))
  exact hs.extBut b o hb (Heap.get?_push_of_some _ e)
/-- the making: the object, then the class's own __init__ -/
theorem typeCallE (B : LineE bm) {P : Params} (X : (hd.heap_39 P).In h) {rest : List Value} {Q : PySem.Fin → Shared → Prop}
    (hC : h.get? 65 = some (excClassObj nm q 65 N bs bm hdct sn sub ab col dd k0 k1 k2 k3 k5 "Exception.__new__")) (hrest : rest.length ≤ sizeLine)
    (hq : ∀ h' e, Heap.MadeExcOf h h' e (.ref 65) rest → wpAny (model prog w) A (call (.ref 30) (.ref e :: rest)) (fun r s' => r = .none ∧ Q (.done (.ret (.ref e))) s') E ⟨h', g, d, t, os⟩) :
    wpAny (model prog w) A (Builtin.«type.__call__» ⟨.ref 65 :: rest, []⟩) Q E ⟨h, g, d, t, os⟩ := by
  have Fx := PySem.F.excBase_Exception
  have T : OwnTail h bm bm := .base
  repeat (first | with_reducible refine wpAny_loadPart_at hC ?_ | with_reducible refine wpAny_madeBy_exc hC ?_ | wp_step)
  refine codeAny_call_builtin_code (Code.quiet_builtin _ Fx.quiet) (wpAny_check_new_subU Fx B.ex T hC ?_)
  refine newE B hC ?_ hrest
  show wpAny _ _ _ _ _ _
  have k : ∀ b o, h.get? b = some o → ((h.push { cls := .type "tuple", data := .seq rest.toArray }).push { cls := .ref 65, data := .fields #[.ref h.objs.size, .none, .none, .none, .bool false, .none] }).get? b = some o :=
    fun b o e => Heap.get?_push_of_some _ (Heap.get?_push_of_some _ e)
  have hC1 := k _ _ hC
  have X1 := X.keeps k
  have he : ((h.push { cls := .type "tuple", data := .seq rest.toArray }).push { cls := .ref 65, data := .fields #[.ref h.objs.size, .none, .none, .none, .bool false, .none] }).get? (h.objs.size + 1) = some
      { cls := .ref 65, data := .fields #[.ref h.objs.size, .none, .none, .none, .bool false, .none] } := by heap_get
  have c0 : (Value.ref 65 :: bm).contains (.ref 65) = true := by simp
  unfold isInstance
  repeat (first | with_reducible refine wpAny_loadPart_at he ?_ | (with_reducible refine wpAny_isSubtype_exc hC1 ?_; rw [c0]) | wp_step)
  refine (looks_findIn X1 (exE_init P)).here ?_
  refine wpAny_holding (wpAny_bind ?_)
  refine (bind_fn X1 _ (beq_iff_eq.mp (exE_fn P))).here ?_
  refine wpAny_bind (wpAny_mono (hq _ (h.objs.size + 1) ⟨k, Heap.get?_none_of_le (Nat.le_succ _), h.objs.size, he, Heap.get?_none_of_le (Nat.le_refl _), ?_⟩) (fun r s' hr => ?_) fun _ _ x => x)
  · exact Heap.get?_push_of_some _ (Heap.get?_push_at rfl rfl)
  · obtain ⟨rfl, hQ⟩ := hr
    wp_walk
    exact hQ
theorem callE (B : LineE bm) {P : Params} (X : (hd.heap_39 P).In h) {rest : List Value} {Q : Value → Shared → Prop}
    (hC : h.get? 65 = some (excClassObj nm q 65 N bs bm hdct sn sub ab col dd k0 k1 k2 k3 k5 "Exception.__new__")) (hrest : rest.length ≤ sizeLine)
    (hq : ∀ h' e, Heap.MadeExcOf h h' e (.ref 65) rest → wpAny (model prog w) (A.under (.builtin "type.__call__" ⟨.ref 65 :: rest, []⟩)) (call (.ref 30) (.ref e :: rest)) (fun r s' => r = .none ∧ Q (.ref e) s') E ⟨h', g, d, t, os⟩) :
    wpAny (model prog w) A (call (.ref 65) rest) Q E ⟨h, g, d, t, os⟩ := by
  have f1 := tc_lookup
  have f2 := tc_bind (.ref 65)
  have hT : (⟨h, g, d, t, os⟩ : Shared).TypeIs (.ref 65) "type" := ⟨_, hC, rfl⟩
  refine wpAny_call (codeAny_of_tree ?_)
  show wpAny _ _ (callAny (.ref 65) _) _ _ _
  repeat (any_goals (first | assumption | with_reducible refine wpAny_loadPart_at hC ?_ | wp_step))
  refine ⟨rfl, ?_⟩
  exact codeAny_call_builtin_at (Code.quiet_builtin _ (by decide +kernel)) entry_typeCall (wpAny_check_type_call_sub hC (typeCallE B X hC hrest hq))
end
end Mine
end

section
set_option maxRecDepth 100000
namespace Mine
open PySem PySem.W PyProof.Rows PySem.Calls PySem.SeqAt Builtin.ObjectAttr
/-! the exception's attributes, and its own __init__ -/
theorem exE_cls (P : Params) : clsIn (hd.heap_39 P) 65 = some (cdE P) := by kernel_rfl
theorem exE_mro (P : Params) : (cdE P).mro = .ref 65 :: bmE := by kernel_rfl
theorem exE_hd (P : Params) : (cdE P).hasDict = true := by kernel_rfl
theorem exE_osa (self v : Value) (name : PySem.Str) (tk : Tok) : Builtin.«object.__setattr__» ⟨[self, .str name tk, v], []⟩ = (refuseIfOverridden self "__setattr__" >>= fun _ => typeOf self >>= fun tp => typeLookup tp name >>= fun attr => storeTaker? attr >>= fun r =>
    match r with | some a => setByDescriptor a self v | none => storeInOwnDict self tp (.str name tk) name v attr.isSome) := by kernel_rfl
section
variable {prog : Program} {w : World} {A : Around} {R : Result → Shared → Prop} {E : Value → Shared → Prop} {h : Heap} {g : Array GenState} {d : Drawn} {t : Nat} {os : OsState} {e : Addr}
theorem storeE {P : Params} (X : (hd.heap_39 P).In h) {ox : Obj} {od : Option Obj} (I : PySem.W.InstAt h e ox 65 od) {name : PySem.Str} {tk : Tok} {v : Value} (ht : takerIn (hd.heap_39 P) 65 name = some none)
    (k : ∀ b, wpAny (model prog w) A.in1 (storeInOwnDict (.ref e) (.ref 65) (.str name tk) name v b)
      (fun fin s' => match fin with | .done f => R (.ok f) s' | .again c' => c'.quiet = true ∧ codeAny (model prog w) A c' R s') (fun x s' => R (.error x) s') ⟨h, g, d, t, os⟩) :
    codeAny (model prog w) A (.call (.builtin "object.__setattr__") ⟨[.ref e, .str name tk, v], []⟩) R ⟨h, g, d, t, os⟩ := by
  have SF := PySem.F.store_object
  have hc := exE_cls P
  have sub : Looks (model prog w) h (isInstance (.ref e) (.type "object")) true := I.type.andThen (looks_mroIn X (by unfold mroIn; rw [hc, Option.bind_some, exE_mro]; rfl))
  refine codeAny_call_builtin SF.slot.plain SF.entry (@check_slot (model prog w) _ _ ⟨h, g, d, t, os⟩ "object.__setattr__" "object" "__setattr__" (.ref e) [.str name tk, v] [] _ SF.kind SF.split sub (SF.args (.ref e) (.str name tk) v) ?_)
  obtain ⟨attr, ha, hr⟩ := Option.bind_eq_some_iff.mp ht
  have hm : Looks (model prog w) h (mroOf (.ref 65)) (cdE P).mro := (looks_clsIn X hc).andThen .now
  have L3 : Looks (model prog w) h (storeTaker? attr) none := by
    cases attr with
    | none => exact .now
    | some a =>
      obtain ⟨b, hb, q⟩ := Option.map_eq_some_iff.mp hr
      cases b with
      | true => cases q
      | false => exact (looks_takesIn X hb).andThen .now
  rw [exE_osa, refuse_eq]
  refine wpAny_bind (wpAny_bind (I.type.here (s := ⟨h, g, d, t, os⟩) (wpAny_bind (hm.here (s := ⟨h, g, d, t, os⟩) ?_))))
  rw [exE_mro]
  unfold bmE
  rw [refuseLoop_ref, refuseLoop_ref, exE_pass]
  exact wpAny_pure (wpAny_bind (I.type.here (s := ⟨h, g, d, t, os⟩) (wpAny_bind ((looks_findIn X ha).here (s := ⟨h, g, d, t, os⟩) (wpAny_bind (L3.here (s := ⟨h, g, d, t, os⟩) (k _)))))))
/-- the first attribute: the dict is made -/
theorem store1 {P : Params} (X : (hd.heap_39 P).In h) {fs : Array Value} (he : h.get? e = some { cls := .ref 65, data := .fields fs }) {name : PySem.Str} {v : Value} (ht : takerIn (hd.heap_39 P) 65 name = some none) {Q : Unit → Shared → Prop}
    (k : ∀ h' tk' dx, h'.get? e = some { cls := .ref 65, dict := some dx, data := .fields fs } → dx ≠ e → h.get? dx = none → h'.Ns1 dx (fun y => if y = name then some v else none) → (∀ b o, b ≠ e → h.get? b = some o → h'.get? b = some o) → Q () ⟨h', g, d, tk', os⟩) :
    wpAny (model prog w) A (setAttr (.ref e) name v) Q E ⟨h, g, d, t, os⟩ := by
  have I : PySem.W.InstAt h e { cls := .ref 65, data := .fields fs } 65 none := ⟨he, rfl, rfl, trivial⟩
  refine set_plain X I (exE_set P) (storeE X I ht fun b => ?_)
  have hx1 : (h.push { cls := .type "dict", data := .dict #[] }).get? e = some { cls := .ref 65, data := .fields fs } := Heap.get?_push_of_some _ he
  have hxs : e ≠ h.objs.size := Nat.ne_of_lt (Heap.lt_size he)
  refine wpAny_bind (wpAny_pure (wpAny_bind (wpAny_bind (wpAny_loadPart (s := ⟨h, g, d, t + 1, os⟩) he (wpAny_bind ((looks_clsIn X (exE_cls P)).here (s := ⟨h, g, d, t + 1, os⟩) ?_))))))
  rw [exE_hd]
  dsimp only
  rw [if_neg (by simp), if_neg (by simp [typeHasDict])]
  refine wpAny_bind (wpAny_alloc' ?_)
  refine wpAny_bind (wpAny_update' hx1 ?_)
  refine wpAny_pure ?_
  have hgd : ((h.push { cls := .type "dict", data := .dict #[] }).update e fun o => { cls := o.cls, dict := some h.objs.size, data := o.data, slots := o.slots }).get? h.objs.size
      = some { cls := .type "dict", data := .dict #[] } :=
    (Heap.get?_update_ne _ _ _ _ hxs.symm).trans (Heap.get?_push_at rfl rfl)
  have hnd : ((h.push { cls := .type "dict", data := .dict #[] }).update e fun o => { cls := o.cls, dict := some h.objs.size, data := o.data, slots := o.slots }).Ns h.objs.size (fun _ => none) :=
    ⟨_, #[], _, hgd, rfl, fun e he => absurd he (by simp), fun _ => rfl⟩
  show wpAny _ _ (storeInDict h.objs.size (.str name (t)) name v) _ _ _
  unfold storeInDict newKeyGuard
  refine wpAny_bind (wpAny_pure (wpAny_bind (wpAny_nsSet1 (Heap.Ns1.of_empty hnd) fun h' hn' hs => ?_)))
  obtain ⟨oD, esD, epD, hoD, hdD, hcD⟩ := hn'.count (Within.cons name v Within.nil)
  refine wpAny_bind (wpAny_lookBehind hoD (by rw [hdD]; exact pastItsLine_dict (Nat.le_trans hcD (by rw [List.length_cons, List.length_nil, sizeLine_eq]; omega))) ?_)
  refine wpAny_pure (k h' _ h.objs.size ?_ hxs.symm (Heap.get?_none_of_le (Nat.le_refl _)) hn' fun b o hb eb => ?_)
  · exact (hs.2 e hxs).trans (Heap.get?_update_self _ hx1 rfl)
  · exact (hs.2 b (Nat.ne_of_lt (Heap.lt_size eb))).trans ((Heap.get?_update_ne _ _ _ _ hb).trans (Heap.get?_push_of_some _ eb))
/-- another attribute -/
theorem store2 {P : Params} (X : (hd.heap_39 P).In h) {fs : Array Value} {dx : Addr} (he : h.get? e = some { cls := .ref 65, dict := some dx, data := .fields fs }) (hne : dx ≠ e) {name nm0 : PySem.Str} {v v0 : Value} (hns : h.Ns1 dx (fun y => if y = nm0 then some v0 else none)) (ht : takerIn (hd.heap_39 P) 65 name = some none) {Q : Unit → Shared → Prop}
    (k : ∀ h' tk', h'.get? e = some { cls := .ref 65, dict := some dx, data := .fields fs } → (∀ b o, b ≠ dx → h.get? b = some o → h'.get? b = some o) → Q () ⟨h', g, d, tk', os⟩) :
    wpAny (model prog w) A (setAttr (.ref e) name v) Q E ⟨h, g, d, t, os⟩ := by
  obtain ⟨od, hod⟩ : ∃ od, h.get? dx = some od := by
    obtain ⟨od, _, _, h1, _⟩ := hns
    exact ⟨od, h1⟩
  have I : PySem.W.InstAt h e { cls := .ref 65, dict := some dx, data := .fields fs } 65 (some od) := ⟨he, rfl, rfl, hod⟩
  refine set_plain X I (exE_set P) (storeE X I ht fun b => ?_)
  unfold storeInOwnDict
  refine wpAny_bind (wpAny_pure (wpAny_bind (wpAny_bind (wpAny_loadPart (s := ⟨h, g, d, t + 1, os⟩) he (wpAny_bind ((looks_clsIn X (exE_cls P)).here (s := ⟨h, g, d, t + 1, os⟩) ?_))))))
  rw [exE_hd]
  refine wpAny_pure (a := some dx) ?_
  show wpAny _ _ (storeInDict dx (.str name (t)) name v) _ _ _
  unfold storeInDict newKeyGuard
  refine wpAny_bind (wpAny_pure (wpAny_bind (wpAny_nsSet1 hns fun h' hn' hs => ?_)))
  obtain ⟨oD, esD, epD, hoD, hdD, hcD⟩ := hn'.count (Within.cons name v (Within.cons nm0 v0 Within.nil))
  refine wpAny_bind (wpAny_lookBehind hoD (by rw [hdD]; exact pastItsLine_dict (Nat.le_trans hcD (by simp only [List.length_cons, List.length_nil]; rw [sizeLine_eq]; omega))) ?_)
  exact wpAny_pure (k h' _ ((hs.2 e hne.symm).trans he) fun b o hb eb => (hs.2 b hb).trans eb)
end
/-! __init__ -/
theorem le_lk (P : Params) : (hd.heap_39 P).lookup 30 = some (obOf P 30) := by kernel_rfl
theorem le_dt (P : Params) : (obOf P 30).data = .func (fdOf P 30) := by kernel_rfl
theorem le_body (P : Params) : (fdOf P 30).body = .stmts (toSs nm (.cons le_s1 (.cons le_s2 (.cons le_s3 .nil)))) := by kernel_rfl
theorem le_code (P : Params) : codeIn (hd.heap_39 P) (fdOf P 30).code (fdOf P 30).qualname = true := by kernel_rfl
theorem le_co (P : Params) : (fdOf P 30).scope.isCoroutine = false ∧ (fdOf P 30).scope.isGenerator = false ∧ (fdOf P 30).scope.kind = .function ∧ (fdOf P 30).globals = mainGlobals ∧ (fdOf P 30).builtins = builtinsNs :=
  ⟨by kernel_rfl, by kernel_rfl, by kernel_rfl, by kernel_rfl, by kernel_rfl⟩
theorem le_cell (P : Params) : ((fdOf P 30).scope.names.all fun x => x.2 != .cell) = true := by kernel_rfl
theorem le_names (P : Params) : (fdOf P 30).scope.names.lookup (nm v_self) = some .local ∧ (fdOf P 30).scope.names.lookup (nm v_what) = some .local ∧ (fdOf P 30).scope.names.lookup (nm v_at) = some .local ∧ (fdOf P 30).scope.names.lookup (nm v_Exception) = some .globalImplicit :=
  ⟨by kernel_rfl, by kernel_rfl, by kernel_rfl, by kernel_rfl⟩
noncomputable def itE (P : Params) : Array Value := match (obOf P 23).data with | .seq vs _ => vs | _ => #[]
theorem le_df (P : Params) : (fdOf P 30).defaults = .ref 23 ∧ (hd.heap_39 P).lookup 23 = some (obOf P 23) ∧ (obOf P 23).data = .seq (itE P) 0 := ⟨by kernel_rfl, by kernel_rfl, by kernel_rfl⟩
noncomputable def atE (P : Params) : Value := (itE P).toList.headD .none
theorem le_bd (P : Params) (a b : Value) : (kSplit (fdOf P 30) [a, b]).1 (some (itE P)) = pure [(nm v_self, a), (nm v_what, b), (nm v_at, atE P)] := by kernel_rfl
theorem le_ty : typeOf (.type "Exception") = pure (.type "type") ∧ Manifest.isStub "Exception" = false := ⟨by kernel_rfl, by decide +kernel⟩
end Mine
end

section
set_option maxRecDepth 100000
namespace Mine
open PySem PySem.W PyProof.Rows PySem.Calls PySem.SeqAt Builtin.ObjectAttr
theorem lineE : LineE bmE := ⟨by decide +kernel, by decide +kernel, by decide +kernel⟩
/-- a name of the frame -/
theorem nameE {M : Model} {A : Around} {E : Value → Shared → Prop} {s : Shared} {env : Env} {m : PySem.Str → Option Value} {x : Nat} {p : Pos} {v : Value} {Q : Value → Shared → Prop} (fk : env.scope.kind = .function) (hk : env.scope.names.lookup (nm x) = some .local) (hn : s.heap.Ns env.locals m) (hv : m (nm x) = some v) (q : Q v s) :
    wpAny M A (eval (toE nm (.loc x p)) env) Q E s := wpAny_Name (wpAny_loadName_local fk hk hn hv q) (nm_debug x)
set_option maxHeartbeats 4000000 in
theorem newExcOk (V : Vs) (Sa : Sta (mkW V)) : NewExcOk (mkW V) := by
  intro L Y A fr n m σ ρ s x t Q E c S hx k
  obtain ⟨h, g, d, tk, os⟩ := s
  have KI : (hd.heap_39 V.w.params).In h := St.KIn Sa S
  have keep0 : ∀ b o, V.h₀.get? b = some o → h.get? b = some o := by obtain ⟨_, _, S⟩ := S; exact S.F.keep
  have above0 : ∀ h1 : Heap, (∀ b o, h.get? b = some o → h1.get? b = some o) → V.h₀.objs.size ≤ h1.objs.size := fun h1 kk => by
    obtain ⟨_, _, S⟩ := S
    obtain ⟨oL, hoL, _⟩ := NsOb.of S.F.ns
    exact Nat.le_trans S.F.above (Nat.le_of_lt (Heap.lt_size (kk _ _ hoL)))
  show wpAny _ A (call (.ref 65) [.str x t]) Q E _
  refine callE lineE KI (KI _ _ (exE_at V.w.params)) (by rw [sizeLine_eq]; show 1 ≤ 16777216; omega) fun h1 e hm => ?_
  have KI1 := KI.keeps hm.keeps
  obtain ⟨t0, he1, _, _⟩ := hm.there
  obtain ⟨d1, d2, d3⟩ := le_df V.w.params
  obtain ⟨co, gen, kind, gl, bu⟩ := le_co V.w.params
  obtain ⟨n1, n2, n3, n4⟩ := le_names V.w.params
  have hb : BindsTo (⟨h1, g, d, tk, os⟩ : Shared) (fdOf V.w.params 30) ⟨[.ref e, .str x t], []⟩ [(nm v_self, .ref e), (nm v_what, .str x t), (nm v_at, atE V.w.params)] :=
    BindsTo.of_defaults d1 (KI1 _ _ d2) d3 (kSplit (fdOf V.w.params 30) [.ref e, .str x t]).2 (le_bd V.w.params (.ref e) (.str x t))
  refine wpAny_call (codeAny_call_def (fd := fdOf V.w.params 30) (body := toSs nm (.cons le_s1 (.cons le_s2 (.cons le_s3 .nil)))) (binds := [(nm v_self, .ref e), (nm v_what, .str x t), (nm v_at, atE V.w.params)]) ?_ (KI1 _ _ (le_lk V.w.params)) (le_dt _) (Sa.T.nolimit.keeps fun b o hb => hm.keeps b o (keep0 b o hb))
    (codeRec_of KI1 (le_code _)) (le_body _) hb (fun y hy q => ?_) (fun y hy => ?_) (fun h2 hns hk2 => ?_) co gen kind)
  · have := c.dp
    show A.depth + 1 < recursionLimit
    omega
  · have := List.all_eq_true.mp (le_cell V.w.params) y hy
    rw [q] at this
    cases this
  · rcases List.mem_cons.mp hy with rfl | hy
    · exact n1
    · rcases List.mem_cons.mp hy with rfl | hy
      · exact n2
      · rcases List.mem_cons.mp hy with rfl | hy
        · exact n3
        · cases hy
  dsimp only at hns hk2 ⊢
  generalize hL : h1.objs.size = L2 at hns ⊢
  have v1 : ([(nm v_self, Value.ref e), (nm v_what, .str x t), (nm v_at, atE V.w.params)] : List (PySem.Str × Value)).reverse.lookup (nm v_self) = some (.ref e) := by
    have e1 : (nm v_self == nm v_at) = false := by decide +kernel
    have e2 : (nm v_self == nm v_what) = false := by decide +kernel
    simp [List.lookup_cons, e1, e2]
  have v2 : ([(nm v_self, Value.ref e), (nm v_what, .str x t), (nm v_at, atE V.w.params)] : List (PySem.Str × Value)).reverse.lookup (nm v_what) = some (.str x t) := by
    have e1 : (nm v_what == nm v_at) = false := by decide +kernel
    simp [List.lookup_cons, e1]
  have v3 : ([(nm v_self, Value.ref e), (nm v_what, .str x t), (nm v_at, atE V.w.params)] : List (PySem.Str × Value)).reverse.lookup (nm v_at) = some (atE V.w.params) := by
    simp [List.lookup_cons]
  have he1L : e < h1.objs.size := Heap.lt_size he1
  have KI2 := KI1.keeps hk2
  have he2 := hk2 _ _ he1
  have keepA : ∀ b o, V.h₀.get? b = some o → h2.get? b = some o := fun b o hb => hk2 b o (hm.keeps b o (keep0 b o hb))
  have hneL : L2 ≠ e := by rw [← hL]; exact Nat.ne_of_gt he1L
  have F2 : Fr V.h₀ L2 h2 (fun y => ([(nm v_self, Value.ref e), (nm v_what, .str x t), (nm v_at, atE V.w.params)] : List (PySem.Str × Value)).reverse.lookup y) :=
    ⟨hns, keepA, by rw [← hL]; exact above0 h1 hm.keeps⟩
  have fk : (callEnv (fdOf V.w.params 30) L2 30).scope.kind = .function := kind
  show wpAny _ _ (execs [toS nm le_s1, toS nm le_s2, toS nm le_s3] (callEnv (fdOf V.w.params 30) L2 30)) _ _ _
  -- Exception.__init__(self, what)
  refine wpAny_execs_cons (wpAny_Expr ?_ (by unfold interactive; rw [fk]; rfl) (noSwap nm (.mcall (.glb 140 ⟨5, 8, 5, 17⟩) 141 ⟨5, 8, 5, 26⟩ (.cons (.loc 1 ⟨5, 27, 5, 31⟩) (.cons (.loc 142 ⟨5, 33, 5, 37⟩) .nil)) ⟨5, 8, 5, 38⟩) rfl _ _ _))
  refine mcall_rule (W := mkW V) Sa (o := .glb 140 ⟨5, 8, 5, 17⟩) (as := .cons (.loc 1 ⟨5, 27, 5, 31⟩) (.cons (.loc 142 ⟨5, 33, 5, 37⟩) .nil)) rfl fun pl => ?_
  obtain ⟨g1, g2⟩ := exE_glb V.w.params
  refine Name_function_global fk n4 (loadGlobal_builtin (by rw [show (callEnv (fdOf V.w.params 30) L2 30).globals = mainGlobals from gl]; exact Sa.T.g.keeps keepA) (mg_none_of Sa.X₀ Sa.T.g g1) (by rw [show (callEnv (fdOf V.w.params 30) L2 30).builtins = builtinsNs from bu]; exact Sa.T.b.keeps keepA)
    ((Sa.T.builtins _ (nm_name v_Exception)).trans g2) ?_) (nm_debug v_Exception)
  have hh : handedIn (Value.builtin "Exception.__init__") = true := by decide +kernel
  refine method_type (K := hd.heap_39 V.w.params) (name := nm v_init) F2 Sa.X₀ le_ty.1 le_ty.2 (exE_meth V.w.params) hh ?_
  dsimp only
  refine callWith_b (es := toEs nm (.cons (.loc 1 ⟨5, 27, 5, 31⟩) (.cons (.loc 142 ⟨5, 33, 5, 37⟩) .nil))) ?_
  refine spliced_cons (nameE (x := v_self) fk n1 hns v1 (spliced_cons (nameE (x := v_what) fk n2 hns v2 (spliced_nil ?_))))
  refine initE lineE (KI2 _ _ (exE_at V.w.params)) he2 (by rw [sizeLine_eq]; show 1 ≤ 16777216; omega) fun h3 he3 hk3 => ?_
  dsimp only
  have hns3 : h3.Ns L2 (fun y => ([(nm v_self, Value.ref e), (nm v_what, .str x t), (nm v_at, atE V.w.params)] : List (PySem.Str × Value)).reverse.lookup y) := by
    obtain ⟨o, es, ep, ho, r⟩ := hns
    exact ⟨o, es, ep, hk3 _ _ hneL ho, r⟩
  have KI3 : (hd.heap_39 V.w.params).In h3 := fun b o eb => hk3 b o (fun q => by
    have := KI _ _ eb
    rw [q, hm.new] at this
    cases this) (KI2 _ _ eb)
  -- self.what = what
  refine wpAny_execs_cons (plainObj_wpAny_Assign_Attribute (nameE (x := v_what) fk n2 hns3 v2 (nameE (x := v_self) fk n1 hns3 v1 ?_)) (noSwap nm (.loc 142 ⟨6, 20, 6, 24⟩) rfl _ _ _))
  obtain ⟨w1, w2⟩ := exE_what V.w.params
  refine store1 KI3 he3 w1 fun h4 tk4 dx he4 hdx hdn hn4 hk4 => ?_
  have hns4 : h4.Ns L2 (fun y => ([(nm v_self, Value.ref e), (nm v_what, .str x t), (nm v_at, atE V.w.params)] : List (PySem.Str × Value)).reverse.lookup y) := by
    obtain ⟨o, es, ep, ho, r⟩ := hns3
    exact ⟨o, es, ep, hk4 _ _ hneL ho, r⟩
  have KI4 : (hd.heap_39 V.w.params).In h4 := fun b o eb => hk4 b o (fun q => by
    have := KI _ _ eb
    rw [q, hm.new] at this
    cases this) (KI3 _ _ eb)
  -- self.at = at
  refine wpAny_execs_cons (plainObj_wpAny_Assign_Attribute (nameE (x := v_at) fk n3 hns4 v3 (nameE (x := v_self) fk n1 hns4 v1 ?_)) (noSwap nm (.loc 43 ⟨7, 18, 7, 20⟩) rfl _ _ _))
  refine store2 KI4 he4 hdx hn4 w2 fun h5 tk5 he5 hk5 => ?_
  refine wpAny_execs_nil ⟨rfl, ?_⟩
  refine k h5 tk5 e _ dx (fun b o eb => ?_) hm.new he5
  have hbe : b ≠ e := fun q => by
    have eb : h.get? b = some o := eb
    rw [q, hm.new] at eb
    cases eb
  have b3 := hk3 b o hbe (hk2 b o (hm.keeps b o eb))
  exact hk5 b o (fun q => by rw [q, hdn] at b3; cases b3) (hk4 b o hbe b3)
end Mine
end

section
set_option maxRecDepth 100000
namespace Mine
noncomputable def tbX (D : Int) (neg : Bool) : Tb := { fnT := fnT, clsT := clsT, gT := gT, nSplit := n_split, nJoin := n_join, nFind := n_find, nAppend := n_append, fFig := f_figure_count, D := D, neg := neg, tSplit := [([100, 105, 115, 112, 108, 97, 121, 32, 112, 97, 99, 107, 101, 100, 32, 98, 105, 110, 97, 114, 121, 32, 105, 110, 100, 101, 120], [[100, 105, 115, 112, 108, 97, 121], [112, 97, 99, 107, 101, 100], [98, 105, 110, 97, 114, 121], [105, 110, 100, 101, 120]]), ([65, 32, 88, 32, 57, 32, 66, 32, 48, 32, 47], [[65], [88], [57], [66], [48], [47]]), ([57, 32, 80, 32, 83, 32, 86], [[57], [80], [83], [86]]), ([80, 32, 83, 32, 86], [[80], [83], [86]]), ([83, 32, 86, 32, 46, 32, 67, 82, 32, 68, 66], [[83], [86], [46], [67, 82], [68, 66]])], tInt := [([51], 3), ([52], 4), ([53], 5), ([55], 7), ([49, 48], 10), ([49, 56], 18)], tFind := [([57, 40, 53, 41], (1, 3)), ([83, 57, 40, 51, 41, 86, 57, 57], (2, 4)), ([88, 40, 55, 41], (1, 3)), ([65, 40, 51, 41], (1, 3)), ([83, 57, 40, 49, 56, 41], (2, 5)), ([57, 40, 52, 41], (1, 3)), ([83, 57, 40, 49, 48, 41], (2, 5))] }
end Mine
end

section
set_option maxRecDepth 100000
namespace Mine
open PySem PySem.W PyProof.Rows PySem.Calls PySem.SeqAt
theorem seq_eq' : ∀ {a b : List Nat}, seq a b = true → a = b
  | [], [], _ => rfl
  | [], _ :: _, h => by cases h
  | _ :: _, [], h => by cases h
  | x :: r, y :: t, h => by
    have h : (bif Nat.beq x y then seq r t else false) = true := h
    cases z : Nat.beq x y with
    | false => rw [z] at h; cases h
    | true => rw [z] at h; rw [Nat.eq_of_beq_eq_true z, seq_eq' (a := r) (b := t) h]
theorem sget_mem {α : Type} : ∀ {l : List (List Nat × α)} {k : List Nat} {v : α}, sget l k = some v → (k, v) ∈ l
  | p :: r, k, v, h => by
    have h : (bif seq p.1 k then some p.2 else sget r k) = some v := h
    cases z : seq p.1 k with
    | false => rw [z] at h; exact List.mem_cons_of_mem _ (sget_mem h)
    | true => rw [z] at h; cases h; rw [← seq_eq' z]; exact List.mem_cons_self
theorem fget_mem : ∀ {l : List (List Nat × (Nat × Int))} {k : List Nat} {n : Nat} {v : Int}, fget l k n = some v → (k, (n, v)) ∈ l
  | p :: r, k, n, v, h => by
    have h : (bif Nat.beq p.2.1 n && seq p.1 k then some p.2.2 else fget r k n) = some v := h
    cases z : Nat.beq p.2.1 n && seq p.1 k with
    | false => rw [z] at h; exact List.mem_cons_of_mem _ (fget_mem h)
    | true =>
      rw [z] at h
      cases h
      obtain ⟨z1, z2⟩ := Bool.and_eq_true_iff.mp z
      rw [← seq_eq' z2, ← Nat.eq_of_beq_eq_true z1]; exact List.mem_cons_self
theorem tSplit_ok : ((tbX 0 true).tSplit.all fun q => decide (Txt.split ⟨q.1.toArray⟩ ⟨#[32]⟩ = q.2.map (fun p => (⟨p.toArray⟩ : PySem.Str))) && Nat.ble q.1.length 1000) = true := by decide +kernel
theorem tInt_ok : ((tbX 0 true).tInt.all fun q => decide (PySem.intText? ⟨q.1.toArray⟩ = some (q.2 : Int)) && Nat.ble q.1.length 640) = true := by decide +kernel
theorem tFind_ok : ((tbX 0 true).tFind.all fun q => decide (Txt.find3 ⟨q.1.toArray⟩ ⟨#[41]⟩ (q.2.1 : Int) = q.2.2)) = true := by decide +kernel
theorem fitX {u : Int} (hd0 : ((Str.ofString (toString (absI u))).length : Int) ≤ 1000) (hu : (absI u).natAbs.log2 < 1920) : Fit (gm u) (tbX ((Str.ofString (toString (absI u))).length : Int) (decide (u < 0))) where
  b0 := rfl
  b1 := rfl
  b2 := rfl
  b3 := rfl
  b4 := rfl
  b5 := rfl
  b6 := rfl
  i1 := rfl
  neg := rfl
  dd := rfl
  d0 := rfl
  dl := hd0
  il := hu
  tSplit := fun s ps e => by
    have := List.all_eq_true.mp tSplit_ok _ (sget_mem e)
    obtain ⟨z1, z2⟩ := Bool.and_eq_true_iff.mp this
    exact ⟨of_decide_eq_true z1, Nat.le_of_ble_eq_true z2⟩
  tInt := fun s n e => by
    have := List.all_eq_true.mp tInt_ok _ (sget_mem e)
    obtain ⟨z1, z2⟩ := Bool.and_eq_true_iff.mp this
    exact ⟨of_decide_eq_true z1, Nat.le_of_ble_eq_true z2⟩
  tFind := fun s k r e => by
    have := List.all_eq_true.mp tFind_ok _ (fget_mem e)
    exact of_decide_eq_true this
  nSplit := by show nm n_split = _; decide +kernel
  nJoin := by show nm n_join = _; decide +kernel
  nFind := by show nm n_find = _; decide +kernel
  nAppend := by show nm n_append = _; decide +kernel
end Mine
end

section
namespace Mine
noncomputable def led0 : Led := [
  (512, .lst [.ref 47, .ref 119, .ref 145, .ref 171, .ref 229, .ref 305, .ref 352, .ref 392, .ref 421, .ref 461, .ref 511]),
  (511, .inst 1 510),
  (510, .dct [(41, .str [83, 86, 57]), (22, .ref 483), (0, .str [110, 117, 109, 101, 114, 105, 99]), (9, .int (1)), (10, .int (1)), (11, .bool true), (2, .int (1))]),
  (490, .tup [.str [57], .int (1)]),
  (488, .tup [.str [86], .int (1)]),
  (486, .tup [.str [83], .int (1)]),
  (483, .lst [.ref 486, .ref 488, .ref 490]),
  (461, .inst 1 460),
  (460, .dct [(41, .str [83, 57, 40, 49, 48, 41]), (22, .ref 441), (0, .str [110, 117, 109, 101, 114, 105, 99]), (9, .int (10)), (10, .int (0)), (11, .bool true), (2, .int (10))]),
  (446, .tup [.str [57], .int (10)]),
  (444, .tup [.str [83], .int (1)]),
  (441, .lst [.ref 444, .ref 446]),
  (421, .inst 1 420),
  (420, .dct [(41, .str [57, 40, 52, 41]), (22, .ref 407), (0, .str [110, 117, 109, 101, 114, 105, 99]), (9, .int (4)), (10, .int (0)), (11, .bool false), (2, .int (4))]),
  (410, .tup [.str [57], .int (4)]),
  (407, .lst [.ref 410]),
  (392, .inst 1 391),
  (391, .dct [(41, .str [83, 57, 40, 49, 56, 41]), (22, .ref 372), (0, .str [110, 117, 109, 101, 114, 105, 99]), (9, .int (18)), (10, .int (0)), (11, .bool true), (2, .int (18))]),
  (377, .tup [.str [57], .int (18)]),
  (375, .tup [.str [83], .int (1)]),
  (372, .lst [.ref 375, .ref 377]),
  (352, .inst 1 351),
  (351, .dct [(41, .str [42, 42, 57]), (22, .ref 327), (0, .str [101, 100, 105, 116, 101, 100]), (9, .int (3)), (10, .int (0)), (11, .bool false), (2, .int (3))]),
  (334, .tup [.str [57], .int (1)]),
  (332, .tup [.str [42], .int (2)]),
  (327, .lst [.ref 332, .ref 334]),
  (305, .inst 1 304),
  (304, .dct [(41, .str [90, 90, 57, 46, 57, 57]), (22, .ref 266), (0, .str [101, 100, 105, 116, 101, 100]), (9, .int (5)), (10, .int (2)), (11, .bool false), (2, .int (6))]),
  (279, .tup [.str [57], .int (2)]),
  (275, .tup [.str [46], .int (1)]),
  (273, .tup [.str [57], .int (1)]),
  (271, .tup [.str [90], .int (2)]),
  (266, .lst [.ref 271, .ref 273, .ref 275, .ref 279]),
  (229, .inst 1 228),
  (228, .dct [(41, .str [88, 88, 47, 88, 88]), (22, .ref 207), (0, .str [97, 108, 110, 117, 109, 45, 101, 100, 105, 116, 101, 100]), (9, .int (0)), (10, .int (0)), (11, .bool false), (2, .int (5))]),
  (218, .tup [.str [88], .int (2)]),
  (214, .tup [.str [47], .int (1)]),
  (212, .tup [.str [88], .int (2)]),
  (207, .lst [.ref 212, .ref 214, .ref 218]),
  (171, .inst 1 170),
  (170, .dct [(41, .str [65, 40, 51, 41]), (22, .ref 160), (0, .str [97, 108, 112, 104, 97, 98, 101, 116, 105, 99]), (9, .int (0)), (10, .int (0)), (11, .bool false), (2, .int (3))]),
  (163, .tup [.str [65], .int (3)]),
  (160, .lst [.ref 163]),
  (145, .inst 1 144),
  (144, .dct [(41, .str [88, 40, 55, 41]), (22, .ref 134), (0, .str [97, 108, 112, 104, 97, 110, 117, 109, 101, 114, 105, 99]), (9, .int (0)), (10, .int (0)), (11, .bool false), (2, .int (7))]),
  (137, .tup [.str [88], .int (7)]),
  (134, .lst [.ref 137]),
  (119, .inst 1 118),
  (118, .dct [(41, .str [83, 57, 40, 51, 41, 86, 57, 57]), (22, .ref 82), (0, .str [110, 117, 109, 101, 114, 105, 99]), (9, .int (5)), (10, .int (2)), (11, .bool true), (2, .int (5))]),
  (93, .tup [.str [57], .int (2)]),
  (89, .tup [.str [86], .int (1)]),
  (87, .tup [.str [57], .int (3)]),
  (85, .tup [.str [83], .int (1)]),
  (82, .lst [.ref 85, .ref 87, .ref 89, .ref 93]),
  (47, .inst 1 46),
  (46, .dct [(41, .str [57, 40, 53, 41]), (22, .ref 33), (0, .str [110, 117, 109, 101, 114, 105, 99]), (9, .int (5)), (10, .int (0)), (11, .bool false), (2, .int (5))]),
  (36, .tup [.str [57], .int (5)]),
  (33, .lst [.ref 36]),
  (18, .lst [.ref 1, .ref 2, .ref 3, .ref 5, .ref 6, .ref 7, .ref 10, .ref 11, .ref 12, .ref 15, .ref 16]),
  (16, .tup [.str [83, 86, 57], .str [110, 117, 109, 101, 114, 105, 99], .int (1), .int (1), .int (1), .bool true]),
  (15, .tup [.str [83, 57, 40, 49, 48, 41], .str [110, 117, 109, 101, 114, 105, 99], .int (10), .int (10), .int (0), .bool true]),
  (12, .tup [.str [57, 40, 52, 41], .str [110, 117, 109, 101, 114, 105, 99], .int (4), .int (4), .int (0), .bool false]),
  (11, .tup [.str [83, 57, 40, 49, 56, 41], .str [110, 117, 109, 101, 114, 105, 99], .int (18), .int (18), .int (0), .bool true]),
  (10, .tup [.str [42, 42, 57], .str [101, 100, 105, 116, 101, 100], .int (3), .int (3), .int (0), .bool false]),
  (7, .tup [.str [90, 90, 57, 46, 57, 57], .str [101, 100, 105, 116, 101, 100], .int (6), .int (5), .int (2), .bool false]),
  (6, .tup [.str [88, 88, 47, 88, 88], .str [97, 108, 110, 117, 109, 45, 101, 100, 105, 116, 101, 100], .int (5), .int (0), .int (0), .bool false]),
  (5, .tup [.str [65, 40, 51, 41], .str [97, 108, 112, 104, 97, 98, 101, 116, 105, 99], .int (3), .int (0), .int (0), .bool false]),
  (3, .tup [.str [88, 40, 55, 41], .str [97, 108, 112, 104, 97, 110, 117, 109, 101, 114, 105, 99], .int (7), .int (0), .int (0), .bool false]),
  (2, .tup [.str [83, 57, 40, 51, 41, 86, 57, 57], .str [110, 117, 109, 101, 114, 105, 99], .int (5), .int (5), .int (2), .bool true]),
  (1, .tup [.str [57, 40, 53, 41], .str [110, 117, 109, 101, 114, 105, 99], .int (5), .int (5), .int (0), .bool false])]
noncomputable def loc0 : Loc := [(137, .ref 0), (109, .ref 18), (130, .ref 512)]
noncomputable def nxt0 : Nat := 513
/-- the law's own frame -/
noncomputable def fiL : FI := ⟨lw_locs, lw_glbs, 14, []⟩
noncomputable def fiC (r : Int) : FI := ⟨lw_locs, lw_glbs, 14, [(v_rest, .int r)]⟩
noncomputable def outN (o : OutS) : Option (Loc × Led) := match o with
  | .next l σ => some (l, σ.led)
  | _ => none
noncomputable def outT (o : Out AV) : Option Led := match o with
  | .ok (.bool true) σ => some σ.led
  | _ => none
end Mine
end

section
set_option maxRecDepth 100000
namespace Mine
open PySem PySem.W PyProof.Rows PySem.Calls PySem.SeqAt
/-! the ledger back to its first k ids -/
noncomputable def belowV (k : Nat) : AV → Bool
  | .ref i => Nat.blt i k
  | _ => true
noncomputable def belowO (k : Nat) : AO → Bool
  | .tup vs => vs.all (belowV k)
  | .lst vs => vs.all (belowV k)
  | .inst _ d => Nat.blt d k
  | .dct es => es.all fun e => belowV k e.2
  | .lit l _ => Nat.blt l k
noncomputable def belowL (k : Nat) (led : Led) : Bool := led.all fun p => Nat.blt p.1 k && belowO k p.2
noncomputable def belowC (k : Nat) (l : Loc) : Bool := l.all fun p => belowV k p.2
section
variable {G : Mn} {h₀ h : Heap} {L : Addr} {m : PySem.Str → Option Value} {Y : List (Addr × Obj)} {ρ : List Addr} {led : Led} {n k : Nat} {env : Env} {l l' : Loc}
theorem blt_lt {i k : Nat} (h : Nat.blt i k = true) : i < k := Nat.le_of_ble_eq_true h
theorem take_get {i : Nat} {a : Addr} (h : ρ[i]? = some a) (hk : i < k) : (ρ.take k)[i]? = some a := by
  rw [List.getElem?_take, if_pos hk]; exact h
theorem VR.cut {v x} (r : VR G ρ v x) (h : belowV k v = true) : VR G (ρ.take k) v x := by
  cases r with
  | none => exact .none
  | bool b => exact .bool b
  | int k t => exact .int k t
  | str s t => exact .str s t
  | byt a t => exact .byt a t
  | ref e => exact .ref (take_get e (blt_lt h))
  | fn k => exact .fn k
  | cls k => exact .cls k
  | bi k => exact .bi k
  | sym k t => exact .sym k t
  | sstr x t e => exact .sstr x t e
theorem VRs.cut {vs xs} (r : VRs G ρ vs xs) : vs.all (belowV k) = true → VRs G (ρ.take k) vs xs := by
  induction r with
  | nil => exact fun _ => .nil
  | cons a _ ih =>
    intro h
    obtain ⟨h1, h2⟩ := and3 h
    exact .cons (a.cut h1) (ih h2)
theorem OR.cut {v x} (r : OR G ρ v x) (h : belowO k v = true) : OR G (ρ.take k) v x := by
  cases r with
  | tup n a => exact .tup n (a.cut h)
  | lst n a => exact .lst n (a.cut h)
  | inst e => exact .inst (take_get e (blt_lt h))
  | dct n a =>
    refine .dct n ?_
    have h : (_ : List (Nat × AV)).all (fun e => belowV k e.2) = true := h
    induction a with
    | nil => exact .nil
    | cons b _ ih =>
      obtain ⟨h1, h2⟩ := and3 h
      exact .cons ⟨b.1, b.2.cut h1⟩ (ih h2 h2)
  | lit e hc hd => exact .lit (take_get e (blt_lt h)) hc hd
theorem Rel.cut {news} (r : Rel G ρ led news) : belowL k led = true → Rel G (ρ.take k) led news := by
  induction r with
  | nil => exact fun _ => .nil
  | cons a _ ih =>
    intro h
    obtain ⟨h1, h2⟩ := and3 h
    obtain ⟨h1, h3⟩ := and3 h1
    exact .cons ⟨take_get a.1 (blt_lt h1), a.2.cut h3⟩ (ih h2)
theorem St.cut (S : St G h₀ L m Y ρ ⟨led, n⟩ h) (hk : k ≤ n) (b : belowL k led = true) : St G h₀ L m Y (ρ.take k) ⟨led, k⟩ h := by
  obtain ⟨news, X, S⟩ := S
  have hl := S.len
  exact ⟨news, X, by rw [List.length_take]; show min k ρ.length = k; rw [hl]; exact Nat.min_eq_left hk, S.F, S.N, S.nd, S.R.cut b, S.X⟩
theorem LR.cut (r : LR G env ρ l m) (b : belowC k l = true) : LR G env (ρ.take k) l m := fun x a e =>
  let ⟨h1, v, h2, h3⟩ := r x a e
  ⟨h1, v, h2, h3.cut (List.all_eq_true.mp b _ (aget_mem e))⟩
theorem St.nxt_le {σ : Sig} {ρ' : List Addr} {σ' : Sig} {m' : PySem.Str → Option Value} {Y' : List (Addr × Obj)} {h' : Heap} (S : St G h₀ L m Y ρ σ h) (p : ρ <+: ρ') (S' : St G h₀ L m' Y' ρ' σ' h') : σ.nxt ≤ σ'.nxt := by
  obtain ⟨_, _, S⟩ := S
  obtain ⟨_, _, S'⟩ := S'
  rw [← S.len, ← S'.len]; exact p.length_le
/-- what l knows l' knows -/
noncomputable def SubL (l l' : Loc) : Prop := ∀ x a, aget l x = some a → aget l' x = some a
theorem SubL.refl (l : Loc) : SubL l l := fun _ _ h => h
theorem SubL.put (s : SubL l l') {x : Nat} (h : aget l x = none) (v : AV) : SubL l (aput l' x v) := fun y a e => by
  rw [aget_aput]
  by_cases q : x = y
  · subst q; rw [h] at e; cases e
  · rw [if_neg q]; exact s y a e
theorem LR.sub (r : LR G env ρ l' m) (s : SubL l l') : LR G env ρ l m := fun x a e => r x a (s x a e)
end
/-! another number -/
noncomputable def plainV : AV → Bool
  | .sym _ => false
  | .sstr => false
  | _ => true
noncomputable def plainO : AO → Bool
  | .tup vs => vs.all plainV
  | .lst vs => vs.all plainV
  | .dct es => es.all fun e => plainV e.2
  | _ => true
noncomputable def plainL (led : Led) : Bool := led.all fun p => plainO p.2
noncomputable def plainC (l : Loc) : Bool := l.all fun p => plainV p.2
section
variable {u : Int} (u' : Int) {h₀ h : Heap} {L : Addr} {m : PySem.Str → Option Value} {Y : List (Addr × Obj)} {ρ : List Addr} {led : Led} {σ : Sig} {env : Env} {l : Loc}
theorem VR.reG {v x} (r : VR (gm u) ρ v x) (h : plainV v = true) : VR (gm u') ρ v x := by
  cases r with
  | none => exact .none
  | bool b => exact .bool b
  | int k t => exact .int k t
  | str s t => exact .str s t
  | byt a t => exact .byt a t
  | ref e => exact .ref e
  | fn k => exact .fn (G := gm u') k
  | cls k => exact .cls (G := gm u') k
  | bi k => exact .bi (G := gm u') k
  | sym k t => cases h
  | sstr x t e => cases h
theorem VRs.reG {vs xs} (r : VRs (gm u) ρ vs xs) : vs.all plainV = true → VRs (gm u') ρ vs xs := by
  induction r with
  | nil => exact fun _ => .nil
  | cons a _ ih =>
    intro h
    obtain ⟨h1, h2⟩ := and3 h
    exact .cons (a.reG u' h1) (ih h2)
theorem OR.reG {v x} (r : OR (gm u) ρ v x) (h : plainO v = true) : OR (gm u') ρ v x := by
  cases r with
  | tup n a => exact .tup n (a.reG u' h)
  | lst n a => exact .lst n (a.reG u' h)
  | inst e => exact .inst (G := gm u') e
  | dct n a =>
    refine .dct n ?_
    have h : (_ : List (Nat × AV)).all (fun e => plainV e.2) = true := h
    induction a with
    | nil => exact .nil
    | cons b _ ih =>
      obtain ⟨h1, h2⟩ := and3 h
      exact .cons ⟨b.1, b.2.reG u' h1⟩ (ih h2 h2)
  | lit e hc hd => exact .lit e hc hd
theorem Rel.reG {news} (r : Rel (gm u) ρ led news) : plainL led = true → Rel (gm u') ρ led news := by
  induction r with
  | nil => exact fun _ => .nil
  | cons a _ ih =>
    intro h
    obtain ⟨h1, h2⟩ := and3 h
    exact .cons ⟨a.1, a.2.reG u' h1⟩ (ih h2)
theorem St.reG (S : St (gm u) h₀ L m Y ρ σ h) (b : plainL σ.led = true) : St (gm u') h₀ L m Y ρ σ h := by
  obtain ⟨news, X, S⟩ := S
  exact ⟨news, X, S.len, S.F, S.N, S.nd, S.R.reG u' b, S.X⟩
theorem LR.reG (r : LR (gm u) env ρ l m) (b : plainC l = true) : LR (gm u') env ρ l m := fun x a e =>
  let ⟨h1, v, h2, h3⟩ := r x a e
  ⟨h1, v, h2, h3.reG u' (List.all_eq_true.mp b _ (aget_mem e))⟩
end
/-! a loop of n turns -/
section
variable {prog : Program} {w : World} {A : Around} {env : Env} {R : Result → Shared → Prop} {s : Shared}
theorem for_turn {target : Expr} {it : Value} {body : List Stmt}
    (h : wpAny (model prog w) A (pyNext it) (fun r s₁ => match r with
      | none => R (.ok .next) s₁
      | some v => wpAny (model prog w) A (letOwnedTupleGo target it v) (fun _ s₁' => wpAny (model prog w) A (assign target env v) (fun _ s₂ => wpAny (model prog w) A (execs body env) (fun f s₃ => f = .next ∧ codeAny (model prog w) A (.forLoop target it body [] env) R s₃)
            (fun _ _ => False) s₂) (fun _ _ => False) s₁') (fun _ _ => False) s₁) (fun _ _ => False) s) : codeAny (model prog w) A (.forLoop target it body [] env) R s := by
  refine codeAny_of_tree ?_
  show wpAny _ _ ((forTurn target it body [] env).onRaise (fun x => do noteFrame x env; theTreesLotGoes x)) _ _ s
  refine wpAny_noted ?_
  simp only [forTurn]
  refine wpAny_bind (wpAny_standAt (wpAny_bind (wpAny_onRaise (wpAny_mono h (fun r s₁ h₁ => ?_) fun _ _ h' => h'.elim))))
  cases r with
  | none => exact wpAny_pure ⟨rfl, codeAny_block (wpAny_execs_nil h₁)⟩
  | some v =>
    refine wpAny_bind (wpAny_mono h₁ (fun _ s₁' h₁' => ?_) fun _ _ h' => h'.elim)
    refine wpAny_bind (wpAny_mono h₁' (fun _ s₂ h₂ => wpAny_bind (wpAny_mono h₂ (fun f s₃ h₃ => ?_) fun _ _ h' => h'.elim)) fun _ _ h' => h'.elim)
    obtain ⟨rfl, h₃⟩ := h₃
    exact wpAny_pure ⟨rfl, h₃⟩
theorem for_many {target : Expr} {it : Value} {body : List Stmt} (n : Nat) (P : Nat → Shared → Prop)
    (turn : ∀ j s, j < n → P j s → wpAny (model prog w) A (pyNext it) (fun r s₁ => ∃ v, r = some v ∧ wpAny (model prog w) A (letOwnedTupleGo target it v) (fun _ s₁' => wpAny (model prog w) A (assign target env v) (fun _ s₂ =>
      wpAny (model prog w) A (execs body env) (fun f s₃ => f = .next ∧ P (j + 1) s₃) (fun _ _ => False) s₂) (fun _ _ => False) s₁') (fun _ _ => False) s₁) (fun _ _ => False) s)
    (fin : ∀ s, P n s → wpAny (model prog w) A (pyNext it) (fun r s₁ => r = none ∧ R (.ok .next) s₁) (fun _ _ => False) s) (h0 : P 0 s) :
    codeAny (model prog w) A (.forLoop target it body [] env) R s := by
  have key : ∀ k j s, j + k = n → P j s → codeAny (model prog w) A (.forLoop target it body [] env) R s := by
    intro k
    induction k with
    | zero =>
      intro j s e p
      have e : j = n := e
      subst e
      refine for_turn (wpAny_mono (fin s p) (fun r s₁ h => ?_) fun _ _ x => x)
      obtain ⟨rfl, h⟩ := h
      exact h
    | succ k ih =>
      intro j s e p
      refine for_turn (wpAny_mono (turn j s (by omega) p) (fun r s₁ h => ?_) fun _ _ x => x)
      obtain ⟨v, rfl, h⟩ := h
      exact wpAny_mono h (fun _ s₂ h₂ => wpAny_mono h₂ (fun _ s₃ h₃ => wpAny_mono h₃ (fun f s₄ h₄ => ⟨h₄.1, ih (j + 1) s₄ (by omega) h₄.2⟩) fun _ _ x => x) fun _ _ x => x) fun _ _ x => x
  exact key n 0 s (by omega) h0
end
end Mine
end

section
set_option maxRecDepth 100000
namespace Mine
open PySem PySem.W PyProof.Rows PySem.Calls PySem.SeqAt
section
variable {W : Wd} {L : Addr} {Y : List (Addr × Obj)} {fi : FI} {env : Env} {A : Around} {fr : List Env} {m : PySem.Str → Option Value} {l : Loc} {σ : Sig} {ρ ρ' : List Addr} {s : Shared} {E E' : Value → Shared → Prop} {ih : Itp} {G : Mn}
  {Q Q' : Flow → Shared → Prop} {h₀ h h' : Heap}
/-- an enumerate object over the iterator a -/
noncomputable abbrev enumO (a : Addr) (j : Int) (v : Value) : Obj := { cls := .type "enumerate", dict := none, data := .fields #[.none, .bool false, .ref a, rawInt j, .none, v], slots := #[] }
noncomputable abbrev rangeO (j r : Int) : Obj := { cls := .type "range_iterator", data := .fields #[rawInt j, rawInt r, rawInt 1] }
/-- the same as wpAny, closed to the unifier: a statement of the law must not be run by it -/
@[irreducible] noncomputable def WP (M : Model) (A : Around) {α : Type} (t : Sem α) (Q : α → Shared → Prop) (E : Value → Shared → Prop) (s : Shared) : Prop := wpAny M A t Q E s
theorem WP.mk {M : Model} {A : Around} {α : Type} {t : Sem α} {Q : α → Shared → Prop} {E : Value → Shared → Prop} {s : Shared} (h : wpAny M A t Q E s) : WP M A t Q E s := by unfold WP; exact h
theorem WP.un {M : Model} {A : Around} {α : Type} {t : Sem α} {Q : α → Shared → Prop} {E : Value → Shared → Prop} {s : Shared} (h : WP M A t Q E s) : wpAny M A t Q E s := by unfold WP at h; exact h
theorem consW {M : Model} {A : Around} {env : Env} {st : Stmt} {rest : List Stmt} {Q : Flow → Shared → Prop} {E : Value → Shared → Prop} {s : Shared}
    (h : WP M A (exec st env) (fun f s' => match f with | .next => WP M A (execs rest env) Q E s' | f => Q f s') E s) : WP M A (execs (st :: rest) env) Q E s :=
  WP.mk (wpAny_execs_cons (wpAny_mono (WP.un h) (fun f s' hh => by cases f <;> first | exact WP.un hh | exact hh) fun _ _ x => x))
theorem nilW {M : Model} {A : Around} {env : Env} {Q : Flow → Shared → Prop} {E : Value → Shared → Prop} {s : Shared} (h : Q .next s) : WP M A (execs [] env) Q E s := WP.mk (wpAny_execs_nil h)
theorem Cx.wk (c : Cx W L Y fi env A fr) (q : Addr × Obj) : Cx W L (q :: Y) fi env A fr :=
  { c with
    ff := fun e he => by
      obtain ⟨k1, a, k2, k3⟩ := c.ff e he
      refine ⟨k1, a, k2, ?_⟩
      rcases k3 with k3 | ⟨o, es, n, k3, k4⟩
      · exact .inl k3
      · exact .inr ⟨o, es, n, .tail _ k3, k4⟩
    ce := fun x a e => by
      obtain ⟨q, o, v, h1, h2, h3, h4, h5⟩ := c.ce x a e
      exact ⟨q, o, v, h1, h2, .tail _ h3, h4, h5⟩ }
theorem Cs.wk (c : Cs W L Y fi env A fr) (q : Addr × Obj) : Cs W L (q :: Y) fi env A fr := ⟨c.toCx.wk q, c.ef, c.fe⟩
/-- two objects beside change -/
theorem St.alter2 {a b : Addr} {o o' p p' : Obj} (S : St G h₀ L m ((a, o) :: (b, p) :: Y) ρ σ h) (hf : o'.isFreed = false) (k : ∀ c ob, c ≠ a → c ≠ b → h.get? c = some ob → h'.get? c = some ob) (e : h'.get? a = some o') (e2 : h'.get? b = some p') :
    St G h₀ L m ((a, o') :: (b, p') :: Y) ρ σ h' := by
  obtain ⟨oo, g1, _, _, _⟩ := S.mem (.head _)
  have u1 : (h.update a fun _ => o').get? a = some o' := Heap.get?_update_self _ g1 hf
  have S1 : St G h₀ L m ((a, o') :: (b, p) :: Y) ρ σ (h.update a fun _ => o') := S.alter (fun c ob hc hb => by rw [Heap.get?_update_other _ _ hc.symm]; exact hb) u1
  refine (St.alter (a := b) S1.swap (fun c ob hc hb => ?_) e2).swap
  by_cases q : c = a
  · rw [q] at hb ⊢
    rw [u1] at hb
    cases hb
    exact e
  · rw [Heap.get?_update_other _ _ (Ne.symm q)] at hb
    exact k c ob q hc hb
theorem St.side {a : Addr} {o : Obj} (S : St G h₀ L m ((a, o) :: Y) ρ σ h) (ns : ¬ Slotty o) : h.get? a = some o := by
  obtain ⟨o', g1, g2, _, _⟩ := S.mem (.head _)
  rcases g2 with g2 | ⟨sl, _⟩
  · rw [g1, g2]
  · exact absurd sl ns
theorem nosl {o : Obj} {vs : Array Value} (e : o.data = .fields vs) : ¬ Slotty o := fun q => by
  rcases q with ⟨_, _, q⟩ | ⟨_, q⟩ <;> (rw [e] at q; cases q)
/-- back to the places that a state knows -/
theorem take_self {σ : Sig} (S : St G h₀ L m Y ρ σ h) (p : ρ <+: ρ') : ρ'.take σ.nxt = ρ := by
  obtain ⟨_, _, S⟩ := S
  rw [← S.len]
  exact (List.prefix_iff_eq_take.mp p).symm
theorem St.back {led led1 : Led} {n n1 : Nat} {m' : PySem.Str → Option Value} {Y' : List (Addr × Obj)} (S : St G h₀ L m Y ρ ⟨led, n⟩ h) (p : ρ <+: ρ') (S' : St G h₀ L m' Y' ρ' ⟨led1, n1⟩ h') (hk : keepNew n (fun _ => false) led1 = led) (b : belowL n led = true) :
    St G h₀ L m' Y' ρ ⟨led, n⟩ h' := by
  have hn := S.nxt_le p S'
  have S2 := S'.drop n .none
  have e : Mine.drop n .none ⟨led1, n1⟩ = ⟨led, n1⟩ := by
    show (⟨keepNew n (fun _ => false) led1, n1⟩ : Sig) = _
    rw [hk]
  rw [e] at S2
  have S3 := S2.cut (k := n) hn b
  rw [take_self S p] at S3
  exact S3
theorem LR.back {l : Loc} {led : Led} {n : Nat} {m' : PySem.Str → Option Value} (S : St G h₀ L m Y ρ ⟨led, n⟩ h) (p : ρ <+: ρ') (r : LR G env ρ' l m') (b : belowC n l = true) : LR G env ρ l m' := by
  have := r.cut b
  rw [take_self S p] at this
  exact this
/-- a turn's body -/
theorem body_ok (So : SoundS W ih) (c : Cs W L Y fi env A fr) {led led' : Led} {n : Nat} {b : PSs} {l' l0 : Loc} (S : St W.G W.h₀ L m Y ρ ⟨led, n⟩ s.heap) (hl : LR W.G env ρ l m)
    (he : outN (ih.exs fi l b ⟨led, n⟩) = some (l', led')) (hk : keepNew n (fun _ => false) led' = led) (bl : belowL n led = true) (sb : SubL l0 l') (bc : belowC n l0 = true)
    (q : ∀ m' h' tk', St W.G W.h₀ L m' Y ρ ⟨led, n⟩ h' → LR W.G env ρ l0 m' → Q .next { s with heap := h', toks := tk' }) :
    wpAny (model W.prog W.w) A (execs (toSs W.G.nm b) env) Q E s := by
  refine So.exs c S hl ?_
  cases z : ih.exs fi l b ⟨led, n⟩ with
  | next l1 σ1 =>
    rw [z] at he
    have he : some (l1, σ1.led) = some (l', led') := he
    injection he with he
    injection he with h1 h2
    intro ρ1 m1 h1' tk1 p1 S1 hl1
    obtain ⟨led1, n1⟩ := σ1
    have h2 : led1 = led' := h2
    subst h1 h2
    exact q m1 h1' tk1 (S.back p1 S1 hk bl) (LR.back S p1 (hl1.sub sb) bc)
  | stuck => rw [z] at he; cases he
  | ret v σ' => rw [z] at he; cases he
  | exc σ' => rw [z] at he; cases he
  | rai σ' => rw [z] at he; cases he
/-- one statement -/
theorem stmt_ok (So : SoundS W ih) (c : Cs W L Y fi env A fr) {led led' : Led} {n : Nat} {b : PS} {l' l0 : Loc} (S : St W.G W.h₀ L m Y ρ ⟨led, n⟩ s.heap) (hl : LR W.G env ρ l m)
    (he : outN (ih.ex fi l b ⟨led, n⟩) = some (l', led')) (hk : keepNew n (fun _ => false) led' = led) (bl : belowL n led = true) (sb : SubL l0 l') (bc : belowC n l0 = true)
    (q : ∀ m' h' tk', St W.G W.h₀ L m' Y ρ ⟨led, n⟩ h' → LR W.G env ρ l0 m' → Q .next { s with heap := h', toks := tk' }) :
    WP (model W.prog W.w) A (exec (toS W.G.nm b) env) Q E s := by
  refine WP.mk ?_
  refine So.ex c S hl ?_
  cases z : ih.ex fi l b ⟨led, n⟩ with
  | next l1 σ1 =>
    rw [z] at he
    have he : some (l1, σ1.led) = some (l', led') := he
    injection he with he
    injection he with h1 h2
    intro ρ1 m1 h1' tk1 p1 S1 hl1
    obtain ⟨led1, n1⟩ := σ1
    have h2 : led1 = led' := h2
    subst h1 h2
    exact q m1 h1' tk1 (S.back p1 S1 hk bl) (LR.back S p1 (hl1.sub sb) bc)
  | stuck => rw [z] at he; cases he
  | ret v σ' => rw [z] at he; cases he
  | exc σ' => rw [z] at he; cases he
  | rai σ' => rw [z] at he; cases he
theorem aget_blt {led : Led} {n i : Nat} {o : AO} (b : belowL n led = true) (h : aget led i = some o) : i < n := by
  have := List.all_eq_true.mp b _ (aget_mem h)
  exact blt_lt (and3 this).1
/-- what an expression gives, when its answer is known -/
theorem ev_is (So : Sound W ih) (c : Cx W L Y fi env A fr) {e : PE} {v : AV} {σ1 : Sig} {Q : Value → Shared → Prop} (S : St W.G W.h₀ L m Y ρ σ s.heap) (hl : LR W.G env ρ l m) (he : ih.ev fi l e σ = .ok v σ1)
    (q : ∀ ρ' b h' tk', ρ <+: ρ' → St W.G W.h₀ L m Y ρ' σ1 h' → LR W.G env ρ' l m → VR W.G ρ' v b → Q b { s with heap := h', toks := tk' }) : wpAny (model W.prog W.w) A (eval (toE W.G.nm e) env) Q E s := by
  refine So.ev c S hl ?_
  rw [he]
  exact fun ρ' b h' tk' p S' r => q ρ' b h' tk' p S' (hl.mono p) r
theorem ev_same (So : Sound W ih) (c : Cx W L Y fi env A fr) {e : PE} {v : AV} {Q : Value → Shared → Prop} (S : St W.G W.h₀ L m Y ρ σ s.heap) (hl : LR W.G env ρ l m) (he : ih.ev fi l e σ = .ok v σ)
    (q : ∀ b h' tk', St W.G W.h₀ L m Y ρ σ h' → VR W.G ρ v b → Q b { s with heap := h', toks := tk' }) : wpAny (model W.prog W.w) A (eval (toE W.G.nm e) env) Q E s := by
  refine ev_is So c S hl he fun ρ' b h' tk' p S' hl' r => ?_
  have e : ρ' = ρ := by
    obtain ⟨_, _, S⟩ := S
    obtain ⟨_, _, S'⟩ := S'
    have h1 := S.len
    have h2 := S'.len
    exact (p.eq_of_length (by rw [h1, h2])).symm
  subst e
  exact q b h' tk' S' r
/-- for x in a tuple -/
theorem for_tup (So : SoundS W ih) (c : Cs W L Y fi env A fr) {x : Nat} {xp p : Pos} {it : PE} {b : PSs} {led led1 : Led} {n n1 i : Nat} {xs : List AV} (S : St W.G W.h₀ L m Y ρ ⟨led, n⟩ s.heap) (hl : LR W.G env ρ l m)
    (hev : ih.ev fi l it ⟨led, n⟩ = .ok (.ref i) ⟨led1, n1⟩) (hlk : aget led1 i = some (.tup xs)) (hx : nelem fi.locs x = true) (bl : belowL n1 led1 = true) (bl0 : belowL n led = true) (bc : belowC n l = true) (bc1 : belowC n1 l = true)
    (kn : keepNew n (fun _ => false) led1 = led)
    (kn1 : keepNew n1 (fun _ => false) led1 = led1) (turn : ∀ v ∈ xs, ∃ l', outN (ih.exs fi (aput l x v) b ⟨led1, n1⟩) = some (l', led1) ∧ SubL l l')
    (hQ : ∀ m' h' tk', St W.G W.h₀ L m' Y ρ ⟨led, n⟩ h' → LR W.G env ρ l m' → Q .next { s with heap := h', toks := tk' }) :
    WP (model W.prog W.w) A (exec (.For (.Name (W.G.nm x) xp) (toE W.G.nm it) (toSs W.G.nm b) [] p) env) Q E s := by
  refine WP.mk ?_
  refine wpAny_For (ev_is So.toSound c.toCx S hl hev fun ρ1 v h1 tk1 p1 S1 hl1 r1 => ?_) (fun v => noFold _ _ _ _)
  cases r1 with | @ref _ a hp =>
  obtain ⟨us, itp, hv, k, hg⟩ := at_tup S1 hlk hp
  refine wpAny_pyIter_tuple itp ?_
  dsimp only
  have S2 := S1.aside { cls := .type "tuple_iterator", data := .fields #[.ref a, .int 0 0] } rfl
  refine for_many xs.length (fun j s' => ∃ m' h' tk' o, s' = { s with heap := h', toks := tk' } ∧ o.cls = .type "tuple_iterator" ∧ o.data = .fields #[.ref a, .int j 0] ∧
    St W.G W.h₀ L m' ((h1.objs.size, o) :: Y) ρ1 ⟨led1, n1⟩ h' ∧ LR W.G env ρ1 l m') (fun j s' hj hP => ?_) (fun s' hP => ?_) ⟨m, _, tk1, _, rfl, rfl, rfl, S2, hl1⟩
  · obtain ⟨m2, h2, tk2, o, rfl, oc, od, S2, hl2⟩ := hP
    obtain ⟨us2, itp2, hv2, k2, hg2⟩ := at_tup S2 hlk hp
    have hn : xs[j]? = some xs[j] := List.getElem?_eq_getElem hj
    obtain ⟨y, hy, ry⟩ := hv2.get hn
    have hit : h2.IsTupleIter h1.objs.size a j := ⟨o, S2.side (nosl od), oc, od⟩
    refine wpAny_pyNext_tuple_item (s := { s with heap := h2, toks := tk2 }) hit itp2 (x := y) (by simpa using hy) fun h3 hit' hs => ⟨_, rfl, ?_⟩
    obtain ⟨o3, e1, e2, e3⟩ := hit'
    have S3 := S2.alter (o' := o3) (fun c ob hc hb => hs.extBut c ob hc hb) e1
    refine wpAny_of_eq (show letOwnedTupleGo (.Name (W.G.nm x) xp) (.ref h1.objs.size) y = pure () from rfl) (wpAny_assign_Name ?_)
    refine store_sound (s := { s with heap := h3, toks := tk2 }) (c.toCx.wk _) S3 hl2 hx ry fun h4 m4 S4 hl4 => ?_
    obtain ⟨l', t1, t2⟩ := turn xs[j] (List.getElem_mem hj)
    exact body_ok (s := { s with heap := h4, toks := tk2 + 1 }) So (c.wk _) S4 hl4 t1 kn1 bl t2 bc1 fun m5 h5 tk5 S5 hl5 => ⟨rfl, m5, h5, tk5, o3, rfl, e2, e3, S5, hl5⟩
  · obtain ⟨m2, h2, tk2, o, rfl, oc, od, S2, hl2⟩ := hP
    obtain ⟨us2, itp2, hv2, k2, hg2⟩ := at_tup S2 hlk hp
    have hit : h2.IsTupleIter h1.objs.size a xs.length := ⟨o, S2.side (nosl od), oc, od⟩
    have hn : us2.toArray[xs.length]? = none := by
      rw [List.getElem?_toArray, List.getElem?_eq_none_iff, ← hv2.length]; exact Nat.le_refl _
    refine wpAny_pyNext_tuple_end (s := { s with heap := h2, toks := tk2 }) c.hd hit itp2 hn fun h3 he => ⟨rfl, ?_⟩
    exact hQ m2 h3 tk2 (S.back p1 (S2.forget fun c ob hc hb => he c ob hc hb) kn bl0) (LR.back S p1 hl2 bc)
/-- for x, y in enumerate(a list) -/
theorem for_enum (So : SoundS W ih) (c : Cs W L Y fi env A fr) {x y en r : Nat} {xp yp tp enp rp cp p : Pos} {body : List Stmt} {l0 : Loc} {led : Led} {n i k0 : Nat} {xs : List AV} (S : St W.G W.h₀ L m Y ρ ⟨led, n⟩ s.heap) (hl : LR W.G env ρ l0 m)
    (hen : ih.ev fi l0 (.glb en enp) ⟨led, n⟩ = .ok (.bi k0) ⟨led, n⟩) (hen2 : W.G.bV k0 = .type "enumerate") (hr : ih.evs fi l0 (.cons (.loc r rp) .nil) ⟨led, n⟩ = .ok [.ref i] ⟨led, n⟩) (hlk : aget led i = some (.lst xs))
    (hx : nelem fi.locs x = true) (hy : nelem fi.locs y = true)
    (turn : ∀ (j : Nat) v (Y' : List (Addr × Obj)) m' (s' : Shared) (Q' : Flow → Shared → Prop), xs[j]? = some v → Cs W L Y' fi env A fr → St W.G W.h₀ L m' Y' ρ ⟨led, n⟩ s'.heap → LR W.G env ρ (aput (aput l0 x (.int j)) y v) m' →
      (∀ m2 h2 tk2, St W.G W.h₀ L m2 Y' ρ ⟨led, n⟩ h2 → LR W.G env ρ l0 m2 → Q' .next { s' with heap := h2, toks := tk2 }) →
      WP (model W.prog W.w) A (execs body env) Q' (fun _ _ => False) s')
    (hQ : ∀ m' h' tk', St W.G W.h₀ L m' Y ρ ⟨led, n⟩ h' → LR W.G env ρ l0 m' → Q .next { s with heap := h', toks := tk' }) :
    WP (model W.prog W.w) A (exec (.For (.Tuple [.Name (W.G.nm x) xp, .Name (W.G.nm y) yp] 0 tp) (toE W.G.nm (.call (.glb en enp) (.cons (.loc r rp) .nil) cp)) body [] p) env) Q E s := by
  refine WP.mk ?_
  refine wpAny_For ?_ (fun v => noFold _ _ _ _)
  refine Call_Name (starEach_plain _ _ _ (.cons (.loc r rp) .nil)) (ev_same (e := .glb en enp) So.toSound c.toCx S hl hen fun g h1 tk1 S1 r1 => ?_)
  cases r1
  rw [hen2]
  refine callWith_t (es := toEs W.G.nm (.cons (.loc r rp) .nil)) (So.evs (s := { s with heap := h1, toks := tk1 }) c.toCx S1 hl ?_)
  rw [hr]
  intro ρ2 vs h2 tk2 p2 S2 r2
  have e : ρ2 = ρ := by
    obtain ⟨_, _, S⟩ := S
    obtain ⟨_, _, S'⟩ := S2
    exact (p2.eq_of_length (by rw [S.len, S'.len])).symm
  subst e
  cases r2 with | cons ra rest =>
  cases rest
  cases ra with | @ref _ a hp =>
  obtain ⟨us, itl, hv, k, hg⟩ := at_lst S2 hlk hp
  refine call_enumerate_list (s := { s with heap := h2, toks := tk2 }) itl fun h3 hE hI hsz hk => ?_
  dsimp only at hE hI hsz hk ⊢
  refine wpAny_pyIter_enum (s := { s with heap := h3, toks := tk2 }) hE ?_
  obtain ⟨oI, i1, i2, i3⟩ := hI
  have hlt : a < h2.objs.size := by obtain ⟨_, g, _⟩ := itl; exact Heap.lt_size g
  have S3 : St W.G W.h₀ L m ((h2.objs.size + 1, enumO h2.objs.size 0 .none) :: (h2.objs.size, oI) :: Y) ρ2 ⟨led, n⟩ h3 := by
    have A1 := S2.aside oI (Obj.isFreed_of_fields i3)
    have A2 := A1.aside (enumO h2.objs.size 0 .none) rfl
    rw [Heap.size_push] at A2
    refine A2.keeps fun b o e => ?_
    rcases Heap.get?_push_cases e with ⟨q1, q2⟩ | e
    · rw [Heap.size_push] at q1
      rw [q1, q2]; exact hE
    · rcases Heap.get?_push_cases e with ⟨q1, q2⟩ | e
      · rw [q1, q2]; exact i1
      · exact hk b o e
  refine for_many xs.length (fun j s' => ∃ m' h' tk' oI old, s' = { s with heap := h', toks := tk' } ∧ oI.cls = .type "list_iterator" ∧ oI.data = .fields #[.ref a, .int j 0] ∧
    St W.G W.h₀ L m' ((h2.objs.size + 1, enumO h2.objs.size j old) :: (h2.objs.size, oI) :: Y) ρ2 ⟨led, n⟩ h' ∧ LR W.G env ρ2 l0 m')
    (fun j s' hj hP => ?_) (fun s' hP => ?_) ⟨m, h3, tk2, oI, .none, rfl, i2, i3, S3, hl⟩
  · obtain ⟨m4, h4, tk4, oI4, old, rfl, oc, od, S4, hl4⟩ := hP
    obtain ⟨us4, itl4, hv4, k4, hg4⟩ := at_lst S4 hlk hp
    have hn : xs[j]? = some xs[j] := List.getElem?_eq_getElem hj
    obtain ⟨z, hz, rz⟩ := hv4.get hn
    have he4 := S4.side (nosl rfl)
    have hi4 : h4.IsListIter h2.objs.size a j := ⟨oI4, S4.swap.side (nosl od), oc, od⟩
    have hes : h2.objs.size + 1 < h4.objs.size := Heap.lt_size he4
    refine wpAny_pyNext_enum_item (s := { s with heap := h4, toks := tk4 }) he4 hi4 itl4 (x := z) (by simpa using hz) (Nat.succ_ne_self _) fun h5 heo hi5 ht5 hz5 hk5 => ⟨_, rfl, ?_⟩
    dsimp only at heo hi5 ht5 hz5 hk5 ⊢
    refine wpAny_letOwnedTupleGo_enum (s := { s with heap := h5, toks := tk4 + 1 }) heo fun h6 he6 hs6 => ?_
    have hs6 : Heap.SameBut (h2.objs.size + 1) h5 h6 := hs6
    have ht6 : h6.IsTuple h4.objs.size #[.int j tk4, z] := ⟨_, (hs6.2 _ (Nat.ne_of_gt hes)).trans ht5, rfl, _, rfl⟩
    refine wpAny_assign_Tuple (s := { s with heap := h6, toks := tk4 + 1 }) c.hd ht6 rfl rfl fun h7 hx7 => ?_
    have hx7 : Heap.ExtBut h6.objs.size h6 h7 := hx7
    have hz6 : h6.objs.size = h4.objs.size + 1 := hs6.1.trans hz5
    have lt6 : ∀ c, c < h4.objs.size → c ≠ h6.objs.size := fun c hc => by rw [hz6]; exact Nat.ne_of_lt (Nat.lt_succ_of_lt hc)
    obtain ⟨oI5, j1, j2, j3⟩ := hi5
    have hits : h2.objs.size < h4.objs.size := Nat.lt_of_succ_lt hes
    have S7 : St W.G W.h₀ L m4 ((h2.objs.size + 1, enumO h2.objs.size ((j : Int) + 1) z) :: (h2.objs.size, oI5) :: Y) ρ2 ⟨led, n⟩ h7 := by
      refine S4.alter2 rfl (fun c ob hc1 hc2 hb => ?_) ?_ ?_
      · exact hx7 c ob (lt6 c (Heap.lt_size hb)) (hs6.extBut c ob hc1 (hk5 c ob hc1 hc2 hb))
      · exact hx7 _ _ (lt6 _ hes) he6
      · exact hx7 _ _ (lt6 _ hits) (hs6.extBut _ _ (Nat.ne_of_lt (Nat.lt_succ_self _)) j1)
    show wpAny _ _ (assignInOrder [assign (.Name (W.G.nm x) xp) env, assign (.Name (W.G.nm y) yp) env] [.int j tk4, z]) _ _ _
    have c7 := (c.wk (h2.objs.size, oI5)).wk (h2.objs.size + 1, enumO h2.objs.size ((j : Int) + 1) z)
    refine wpAny_assignInOrder_more (wpAny_assign_Name ?_)
    refine store_sound (s := { s with heap := h7, toks := tk4 + 1 }) c7.toCx S7 hl4 hx (.int _ _) fun h8 m8 S8 hl8 => ?_
    refine wpAny_assignInOrder_more (wpAny_assign_Name ?_)
    refine store_sound (s := { s with heap := h8, toks := tk4 + 1 + 1 }) c7.toCx S8 hl8 hy rz fun h9 m9 S9 hl9 => ?_
    refine wpAny_assignInOrder_none ?_
    refine WP.un ?_
    exact turn j xs[j] _ m9 { s with heap := h9, toks := tk4 + 1 + 1 + 1 } _ hn c7 S9 hl9 fun m10 h10 tk10 S10 hl10 => ⟨rfl, m10, h10, tk10, oI5, z, rfl, j2, j3, S10, hl10⟩
  · obtain ⟨m4, h4, tk4, oI4, old, rfl, oc, od, S4, hl4⟩ := hP
    obtain ⟨us4, itl4, hv4, k4, hg4⟩ := at_lst S4 hlk hp
    have hn : us4.toArray[xs.length]? = none := by
      rw [List.getElem?_toArray, List.getElem?_eq_none_iff, ← hv4.length]; exact Nat.le_refl _
    have he4 := S4.side (nosl rfl)
    have hi4 : h4.IsListIter h2.objs.size a xs.length := ⟨oI4, S4.swap.side (nosl od), oc, od⟩
    refine wpAny_pyNext_enum_end (s := { s with heap := h4, toks := tk4 }) c.hd he4 hi4 itl4 hn fun h5 he => ⟨rfl, ?_⟩
    have S5 := S4.swap.forget (h' := h5) fun c ob hc hb => he c ob hc hb
    exact hQ m4 h5 tk4 (S5.forget fun c ob _ hb => hb) hl4
/-- for x in range(a written number) -/
theorem for_range (So : SoundS W ih) (c : Cs W L Y fi env A fr) {x rg : Nat} {xp rp cp p kp : Pos} {N : Nat} {b : PSs} {led : Led} {n k0 : Nat} (S : St W.G W.h₀ L m Y ρ ⟨led, n⟩ s.heap) (hl : LR W.G env ρ l m)
    (hen : ih.ev fi l (.glb rg rp) ⟨led, n⟩ = .ok (.bi k0) ⟨led, n⟩) (hen2 : W.G.bV k0 = .type "range") (hr : ih.evs fi l (.cons (.cst (.int N) kp) .nil) ⟨led, n⟩ = .ok [.int N] ⟨led, n⟩)
    (hx : nelem fi.locs x = true) (hN : N ≤ 1000) (bl : belowL n led = true) (bc : belowC n l = true)
    (turn : ∀ j : Nat, j < N → ∃ l' led', outN (ih.exs fi (aput l x (.int j)) b ⟨led, n⟩) = some (l', led') ∧ keepNew n (fun _ => false) led' = led ∧ SubL l l')
    (hQ : ∀ m' h' tk', St W.G W.h₀ L m' Y ρ ⟨led, n⟩ h' → LR W.G env ρ l m' → Q .next { s with heap := h', toks := tk' }) :
    WP (model W.prog W.w) A (exec (.For (.Name (W.G.nm x) xp) (toE W.G.nm (.call (.glb rg rp) (.cons (.cst (.int N) kp) .nil) cp)) (toSs W.G.nm b) [] p) env) Q E s := by
  refine WP.mk ?_
  refine wpAny_For ?_ (fun v => noFold _ _ _ _)
  refine Call_Name (starEach_plain _ _ _ (.cons (.cst (.int N) kp) .nil)) (ev_same (e := .glb rg rp) So.toSound c.toCx S hl hen fun g h1 tk1 S1 r1 => ?_)
  cases r1
  rw [hen2]
  refine callWith_t (es := toEs W.G.nm (.cons (.cst (.int N) kp) .nil)) (So.evs (s := { s with heap := h1, toks := tk1 }) c.toCx S1 hl ?_)
  rw [hr]
  intro ρ2 vs h2 tk2 p2 S2 r2
  have e : ρ2 = ρ := by
    obtain ⟨_, _, S⟩ := S
    obtain ⟨_, _, S'⟩ := S2
    exact (p2.eq_of_length (by rw [S.len, S'.len])).symm
  subst e
  cases r2 with | cons ra rest =>
  cases rest
  cases ra with | int _ tn =>
  refine call_range_1 (s := { s with heap := h2, toks := tk2 }) ?_
  have hrs : Builtin.Range.rangeSize 0 (N : Int) 1 = (N : Int) := by
    unfold Builtin.Range.rangeSize
    simp
    omega
  have hsm : Builtin.Range.small 0 (N : Int) 1 = true := by
    unfold Builtin.Range.small Builtin.Range.rangeFitsLong
    rw [hrs]
    simp
    omega
  dsimp only
  refine wpAny_pyIter_range (s := { s with heap := _, toks := _ }) (r := h2.objs.size) (Heap.get?_push_size _ rfl) hsm ?_
  rw [hrs]
  dsimp only
  have S3 := (S2.keeps (h' := h2.push { cls := .type "range", data := .fields #[.int 0 tk2, .int (N : Int) tn, .int 1 (tk2 + 1)] }) fun b o e => Heap.get?_push_of_some _ e).aside (rangeO 0 (N : Int)) rfl
  generalize hI : (h2.push { cls := .type "range", data := .fields #[.int 0 tk2, .int (N : Int) tn, .int 1 (tk2 + 1)] }).objs.size = I at S3 ⊢
  refine for_many N (fun j s' => ∃ m' h' tk', s' = { s with heap := h', toks := tk' } ∧ St W.G W.h₀ L m' ((I, rangeO (j : Int) ((N : Int) - j)) :: Y) ρ2 ⟨led, n⟩ h' ∧ LR W.G env ρ2 l m')
    (fun j s' hj hP => ?_) (fun s' hP => ?_) ⟨m, _, _, rfl, by simpa using S3, hl⟩
  · obtain ⟨m4, h4, tk4, rfl, S4, hl4⟩ := hP
    have hit : IsRangeIter h4 I j ((N : Int) - j) 1 := S4.side (nosl rfl)
    refine wpAny_pyNext_range_item (s := { s with heap := h4, toks := tk4 }) hit (by omega) fun h5 hit5 hs => ⟨_, rfl, ?_⟩
    have S5 := S4.alter (h' := h5) (fun c ob hc hb => hs.extBut c ob hc hb) hit5
    refine wpAny_of_eq (show letOwnedTupleGo (.Name (W.G.nm x) xp) (.ref I) (.int j tk4) = pure () from rfl) (wpAny_assign_Name ?_)
    refine store_sound (s := { s with heap := h5, toks := tk4 + 1 }) (c.toCx.wk _) S5 hl4 hx (.int _ _) fun h6 m6 S6 hl6 => ?_
    obtain ⟨l', led', t1, tk, t2⟩ := turn j hj
    refine body_ok (s := { s with heap := h6, toks := tk4 + 1 + 1 }) So (c.wk _) S6 hl6 t1 tk bl t2 bc fun m7 h7 tk7 S7 hl7 => ⟨rfl, m7, h7, tk7, rfl, ?_, hl7⟩
    have e1 : ((j + 1 : Nat) : Int) = (j : Int) + 1 := by omega
    have e2 : (N : Int) - ((j + 1 : Nat) : Int) = (N : Int) - j - 1 := by omega
    rw [e2, e1]
    exact S7
  · obtain ⟨m4, h4, tk4, rfl, S4, hl4⟩ := hP
    have hit : IsRangeIter h4 I N ((N : Int) - N) 1 := S4.side (nosl rfl)
    refine wpAny_pyNext_range_end (s := { s with heap := h4, toks := tk4 }) c.hd hit (by omega) fun h5 he => ⟨rfl, ?_⟩
    exact hQ m4 h5 tk4 (S4.forget fun c ob hc hb => he c ob hc hb) hl4
end
end Mine
end

section
set_option maxRecDepth 100000
namespace Mine
open PySem PySem.W PyProof.Rows PySem.Calls PySem.SeqAt
noncomputable def lwA1 (nm : Nat → PySem.Str) : Stmt := .For (.Name (nm v_usage) ⟨417, 12, 417, 17⟩) (toE nm lw_ia) (toSs nm lw_ba) [] ⟨417, 8, 419, 28⟩
noncomputable def lwA2 (nm : Nat → PySem.Str) : Stmt := .For (.Name (nm v_flags) ⟨420, 12, 420, 17⟩) (toE nm lw_ib) (toSs nm lw_bb) [] ⟨420, 8, 422, 28⟩
noncomputable def lwA (nm : Nat → PySem.Str) : List Stmt := [(lwA1 nm), (lwA2 nm), toS nm lw_c]
noncomputable def lw1 (nm : Nat → PySem.Str) : Stmt := .For (.Tuple [(.Name (nm v_at) ⟨416, 8, 416, 10⟩), (.Name (nm v_row) ⟨416, 12, 416, 15⟩)] 0 ⟨416, 8, 416, 15⟩) (toE nm lw_i1) (lwA nm) [] ⟨416, 4, 424, 24⟩
noncomputable def lw2 (nm : Nat → PySem.Str) : Stmt := .For (.Name (nm v_digits) ⟨425, 8, 425, 14⟩) (toE nm lw_i2) (toSs nm lw_b2) [] ⟨425, 4, 428, 24⟩
noncomputable def lw3l (nm : Nat → PySem.Str) : PySem.Expr := .Call (.Name (nm v_list) ⟨429, 16, 429, 20⟩) [.Subscript (.Name (nm v_script) ⟨429, 21, 429, 27⟩) (.Slice none (some (.Constant (.int 5) 0 ⟨429, 29, 429, 30⟩)) none ⟨429, 28, 429, 30⟩) ⟨429, 21, 429, 31⟩] [] ⟨429, 16, 429, 32⟩
noncomputable def lw3m (nm : Nat → PySem.Str) : PySem.Expr := .BinOp (.BinOp (.Call (.Name (nm v_len) ⟨429, 36, 429, 39⟩) [(.Name (nm v_script) ⟨429, 40, 429, 46⟩)] [] ⟨429, 36, 429, 47⟩) .Mult (.Constant (.int 7919) 0 ⟨429, 50, 429, 54⟩) ⟨429, 36, 429, 54⟩) .Add (.Constant (.int 3) 0 ⟨429, 57, 429, 58⟩) ⟨429, 36, 429, 58⟩
noncomputable def lw3i (nm : Nat → PySem.Str) : PySem.Expr := .BinOp (lw3l nm) .Add (.List [(lw3m nm)] ⟨429, 35, 429, 59⟩) ⟨429, 16, 429, 59⟩
noncomputable def lwT0 (nm : Nat → PySem.Str) : Stmt := .Assign [(.Name (nm v_rest) ⟨430, 8, 430, 12⟩)] (toE nm lw_t0) ⟨430, 8, 430, 24⟩
noncomputable def lwT1 (nm : Nat → PySem.Str) : Stmt := .Assign [(.Tuple [(.Name (nm v_at) ⟨431, 8, 431, 10⟩), (.Name (nm v_rest) ⟨431, 12, 431, 16⟩)] 0 ⟨431, 8, 431, 16⟩)] (toE nm lw_t1) ⟨431, 8, 431, 47⟩
noncomputable def lwT2 (nm : Nat → PySem.Str) : Stmt := .Assign [(.Tuple [(.Name (nm v_usage) ⟨432, 8, 432, 13⟩), (.Name (nm v_rest) ⟨432, 15, 432, 19⟩)] 0 ⟨432, 8, 432, 19⟩)] (toE nm lw_t2) ⟨432, 8, 432, 96⟩
noncomputable def lwT3 (nm : Nat → PySem.Str) : Stmt := .Assign [(.Tuple [(.Name (nm v_sign) ⟨433, 8, 433, 12⟩), (.Name (nm v_rest) ⟨433, 14, 433, 18⟩)] 0 ⟨433, 8, 433, 18⟩)] (toE nm lw_t3) ⟨433, 8, 433, 80⟩
noncomputable def sc4 : List (Nat × Nat) := [(24, 0), (2, 0), (50, 1), (33, 2)]
noncomputable def lwC4 (nm : Nat → PySem.Str) : PySem.Expr := .ListComp (toE nm lw_t4e) [⟨.Name (nm v_size) ⟨434, 55, 434, 59⟩, toE nm lw_t4i, [], 0⟩] (scE nm sc4) ⟨434, 23, 434, 73⟩
noncomputable def lwT4 (nm : Nat → PySem.Str) : Stmt := .Assign [(.Tuple [(.Name (nm v_flags) ⟨434, 8, 434, 13⟩), (.Name (nm v_rest) ⟨434, 15, 434, 19⟩)] 0 ⟨434, 8, 434, 19⟩)] (.Tuple [(lwC4 nm), toE nm lw_t4r] 0 ⟨434, 22, 434, 85⟩) ⟨434, 8, 434, 85⟩
noncomputable def lwT6 (nm : Nat → PySem.Str) : Stmt := toS nm lw_t6
noncomputable def lwT7 (nm : Nat → PySem.Str) : Stmt := .If (.UnaryOp .Not (.Call (.Name (nm v_law_others_right) ⟨438, 15, 438, 32⟩) [toE nm lw_t7a, toE nm lw_t7b] [] ⟨438, 15, 438, 74⟩) ⟨438, 11, 438, 74⟩) (toSs nm lw_t7r) [] ⟨438, 8, 439, 24⟩
noncomputable def lwB3 (nm : Nat → PySem.Str) : List Stmt := [(lwT0 nm), (lwT1 nm), (lwT2 nm), (lwT3 nm), (lwT4 nm), toS nm lw_t5, (lwT6 nm), (lwT7 nm)]
noncomputable def lw3 (nm : Nat → PySem.Str) : Stmt := .For (.Name (nm v_cell) ⟨429, 8, 429, 12⟩) (lw3i nm) (lwB3 nm) [] ⟨429, 4, 439, 24⟩
noncomputable def lwR0 (nm : Nat → PySem.Str) : PySem.Expr := .Call (.Name (nm v_law_others_right) ⟨440, 11, 440, 28⟩) (toEs nm lw_r0) [] ⟨440, 11, 440, 34⟩
noncomputable def lwR1 (nm : Nat → PySem.Str) : PySem.Expr := .Call (.Name (nm v_law_others_right) ⟨440, 39, 440, 56⟩) (toEs nm lw_r1) [] ⟨440, 39, 440, 63⟩
noncomputable def lwR2 (nm : Nat → PySem.Str) : PySem.Expr := .Call (.Name (nm v_law_others_right) ⟨440, 68, 440, 85⟩) (toEs nm lw_r2) [] ⟨440, 68, 440, 94⟩
noncomputable def lwRt (nm : Nat → PySem.Str) : Stmt := .Return (some (.BoolOp .And [(lwR0 nm), (lwR1 nm), (lwR2 nm)] ⟨440, 11, 440, 94⟩)) ⟨440, 4, 440, 94⟩
noncomputable def lawStmts (nm : Nat → PySem.Str) : List Stmt := [toS nm lw_rows, toS nm lw_pics, (lw1 nm), (lw2 nm), (lw3 nm), (lwRt nm)]
end Mine
end

section
set_option maxRecDepth 100000
namespace Mine
open PySem PySem.W PyProof.Rows PySem.Calls PySem.SeqAt
/-! the count of figures: its loop in the small language -/
/-- how often a number is cut by ten till nothing is left -/
noncomputable def figN : Nat → Nat → Nat
  | 0, _ => 0
  | n + 1, r => if r = 0 then 0 else 1 + figN n (r / 10)
theorem dig_len : ∀ n x, x < 10 ^ (n + 1) → (Nat.toDigits 10 x).length = 1 + figN n (x / 10)
  | 0, x, h => by
    rw [Nat.toDigits_of_lt_base (by simpa using h)]; rfl
  | n + 1, x, h => by
    rw [Nat.toDigits_eq_if (by decide)]
    by_cases c : x < 10
    · rw [if_pos c]
      have : x / 10 = 0 := Nat.div_eq_of_lt c
      rw [this]; rfl
    · rw [if_neg c, List.length_append, dig_len n (x / 10) (by
        have : x < 10 ^ (n + 1) * 10 := by rw [← Nat.pow_succ]; exact h
        exact Nat.div_lt_of_lt_mul (by omega))]
      have hne : ¬ x / 10 = 0 := by omega
      show 1 + figN n (x / 10 / 10) + 1 = 1 + figN (n + 1) (x / 10)
      unfold figN
      rw [if_neg hne]
      cases n <;> simp [figN] <;> omega
theorem lenD_eq (x : Nat) (h : x < 10 ^ 20) : ((Str.ofString (toString (x : Int))).length : Int) = 1 + (figN 19 (x / 10) : Nat) := by
  rw [PySem.ofString_length]
  have e : toString (x : Int) = String.ofList (Nat.toDigits 10 x) := by
    show Nat.repr x = _
    exact Nat.repr_eq_ofList_toDigits
  rw [e, String.length_ofList, dig_len 19 x h]
  omega
noncomputable def fiF (c : Nat) : FI := ⟨[23, 13, 33], [], c, []⟩
noncomputable def bodyF : PSs := b_figure_count
noncomputable def whF : PE × PSs := match b_figure_count with
  | .cons _ (.cons (.whl t b _) _) => (t, b)
  | _ => (.cst .none ⟨0, 0, 0, 0⟩, .nil)
theorem whl_turn (tb : Tb) (cc k : Nat) (x r c : Int) (σ : Sig) : (run tb (k + 8)).whl (fiF cc) [(13, .int x), (33, .int r), (23, .int c)] whF.1 whF.2 σ =
    (bif decide ((0 : Int) < r) then onlyNext ((run tb (k + 7)).whl (fiF cc) [(13, .int x), (33, .int (Int.fdiv r 10)), (23, .int (c + 1))] whF.1 whF.2 σ) else .next [(13, .int x), (33, .int r), (23, .int c)] σ) := by kernel_rfl
theorem whl_fig (tb : Tb) (cc : Nat) (x : Int) (σ : Sig) : ∀ (n k r : Nat) (c : Int), r < 10 ^ n → n + 8 ≤ k →
    (run tb k).whl (fiF cc) [(13, .int x), (33, .int r), (23, .int c)] whF.1 whF.2 σ = .next [(13, .int x), (33, .int 0), (23, .int (c + figN n r))] σ
  | 0, k, r, c, hr, hk => by
    obtain ⟨j, rfl⟩ : ∃ j, k = j + 8 := ⟨k - 8, by omega⟩
    have : r = 0 := by simpa using hr
    subst this
    rw [whl_turn]
    show OutS.next _ σ = .next _ σ
    have e : c + ((figN 0 0 : Nat) : Int) = c := Int.add_zero c
    rw [e]; rfl
  | n + 1, k, r, c, hr, hk => by
    obtain ⟨j, rfl⟩ : ∃ j, k = j + 8 := ⟨k - 8, by omega⟩
    rw [whl_turn]
    by_cases h0 : r = 0
    · subst h0
      show OutS.next _ σ = .next _ σ
      have e : c + ((figN (n + 1) 0 : Nat) : Int) = c := Int.add_zero c
      rw [e]; rfl
    · have h1 : decide ((0 : Int) < (r : Int)) = true := decide_eq_true (by omega)
      rw [h1]
      have e2 : Int.fdiv (r : Int) 10 = ((r / 10 : Nat) : Int) := by
        rw [Int.fdiv_eq_ediv_of_nonneg _ (by decide)]; rfl
      have hlt : r / 10 < 10 ^ n := by
        have : r < 10 * 10 ^ n := by rw [Nat.mul_comm, ← Nat.pow_succ]; exact hr
        exact Nat.div_lt_of_lt_mul this
      rw [e2]
      show onlyNext _ = _
      rw [whl_fig tb cc x σ n (j + 7) (r / 10) (c + 1) hlt (by omega)]
      have e3 : c + 1 + ((figN n (r / 10) : Nat) : Int) = c + ((figN (n + 1) r : Nat) : Int) := by
        show _ = c + (((if r = 0 then 0 else 1 + figN n (r / 10)) : Nat) : Int)
        rw [if_neg h0]; omega
      rw [e3]; rfl
theorem cl_fig0 (tb : Tb) (h : tb.fnT = fnT) (cc k : Nat) (x : Int) (σ : Sig) : (run tb (k + 20)).cl cc f_figure_count [.int x] σ =
    clOut σ.nxt ((match onlyNext ((run tb (k + 16)).whl (fiF cc) [(13, .int x), (33, .int (Int.fdiv x 10)), (23, .int 1)] whF.1 whF.2 σ) with
      | .next l σ => (run tb (k + 17)).exs (fiF cc) l (.cons (.ret (.loc 23 ⟨113, 11, 113, 16⟩) ⟨113, 4, 113, 16⟩) .nil) σ
      | r => r)) := by
  obtain ⟨fnT, clsT, gT, a1, a2, a3, a4, a5, a6, a7, a8, a9, a10, a11⟩ := tb
  have h : fnT = Mine.fnT := h
  subst h
  kernel_rfl
theorem cl_fig (tb : Tb) (h : tb.fnT = fnT) (cc : Nat) (x : Nat) (hx : x < 10 ^ 20) (σ : Sig) : (run tb 100).cl cc f_figure_count [.int x] σ = .ok (.int (1 + (figN 19 (x / 10) : Nat))) (Mine.drop σ.nxt (.int (1 + (figN 19 (x / 10) : Nat))) σ) := by
  have e := cl_fig0 tb h cc 80 x σ
  have e2 : Int.fdiv (x : Int) 10 = ((x / 10 : Nat) : Int) := by
    rw [Int.fdiv_eq_ediv_of_nonneg _ (by decide)]; rfl
  rw [e2, whl_fig tb cc x σ 19 96 (x / 10) 1 (by omega) (by omega)] at e
  exact e
theorem keepNew_self {G : Mn} {h₀ h : Heap} {L : Addr} {m : PySem.Str → Option Value} {Y : List (Addr × Obj)} {ρ : List Addr} {σ : Sig} (S : St G h₀ L m Y ρ σ h) (p : Nat → Bool) : keepNew σ.nxt p σ.led = σ.led := by
  obtain ⟨_, _, S⟩ := S
  have R := S.R
  have hl := S.len
  obtain ⟨led, n⟩ := σ
  cases R with
  | nil => rfl
  | @cons p q ps qs a b =>
    have := (List.getElem?_eq_some_iff.mp a.1).1
    have hl : ρ.length = n := hl
    rw [hl] at this
    show (bif Nat.blt p.1 n then p :: ps else _) = _
    rw [show Nat.blt p.1 n = true from Nat.ble_eq_true_of_le this]; rfl
noncomputable def Vs.noFig (V : Vs) : Vs := { V with tb := { V.tb with fig := false } }
theorem Fit.noFig {G : Mn} {tb : Tb} (F : Fit G tb) : Fit G { tb with fig := false } :=
  ⟨F.b0, F.b1, F.b2, F.b3, F.b4, F.b5, F.b6, F.i1, F.neg, F.dd, F.d0, F.dl, F.il, F.tSplit, F.tInt, F.tFind, F.nSplit, F.nJoin, F.nFind, F.nAppend⟩
theorem figOk (V : Vs) (h1 : V.tb.fnT = fnT) (h2 : V.tb.clsT = clsT) (h3 : V.tb.gT = gT) (h4 : V.tb.fFig = f_figure_count) (X : (hd.heap_39 V.w.params).In V.h₀) (T : TopRead V.p V.loose V.mg V.mb V.h₀) (F : Fit (gm V.u) V.tb)
    (Nx : NewExcOk (mkW V.noFig)) (Xc : ExcCls (mkW V.noFig)) (hu : (absI V.u).natAbs < 10 ^ 20) : FigOk (mkW V) := by
  intro _ L Y A fr m σ ρ s t R C S k
  have Sa := sta V.noFig h1 h2 h3 X T F.noFig
  have So := sound Sa (fun h => nomatch h) Nx Xc 100
  have C' : Cc (mkW V.noFig) L Y A fr 0 := ⟨C.un, C.hd, C.dp, C.fs, C.ff⟩
  have hfig : (mkW V).tb.fFig = f_figure_count := h4
  rw [hfig]
  obtain ⟨x, hx⟩ : ∃ x : Nat, absI V.u = (x : Int) := by
    refine ⟨(absI V.u).natAbs, ?_⟩
    unfold absI
    split <;> omega
  have hx2 : x < 10 ^ 20 := by rw [hx] at hu; exact hu
  have hio : (mkW V).G.io 1 = (x : Int) := hx
  have hD : (mkW V).G.D = 1 + (figN 19 (x / 10) : Nat) := by
    show ((Str.ofString (toString (absI V.u))).length : Int) = _
    rw [hx]; exact lenD_eq x hx2
  rw [hio]
  refine So.cl (W := mkW V.noFig) (k := f_figure_count) (as := [.int x]) C' S (.cons (.int _ _) .nil) ?_
  rw [cl_fig (mkW V.noFig).tb h1 0 x hx2 σ]
  intro ρ' b h' tk' p S' r
  cases r with | int _ t' =>
  rw [← hD]
  refine k h' tk' t' ?_
  have e : Mine.drop σ.nxt (.int (1 + (figN 19 (x / 10) : Nat))) σ = σ := by
    show (⟨keepNew σ.nxt (fun _ => false) σ.led, σ.nxt⟩ : Sig) = σ
    rw [keepNew_self S]
  rw [e] at S'
  have e2 : ρ' = ρ := by
    obtain ⟨_, _, S⟩ := S
    obtain ⟨_, _, S'⟩ := S'
    exact (p.eq_of_length (by rw [S.len, S'.len])).symm
  rw [e2] at S'
  exact S'
end Mine
end

section
set_option maxRecDepth 100000
set_option maxHeartbeats 0
namespace Mine
noncomputable def R1 : Itp := run (tbX 1 false) 200
noncomputable def rowR : Nat → AV
  | 0 => .ref 1
  | 1 => .ref 2
  | 2 => .ref 3
  | 3 => .ref 5
  | 4 => .ref 6
  | 5 => .ref 7
  | 6 => .ref 10
  | 7 => .ref 11
  | 8 => .ref 12
  | 9 => .ref 15
  | 10 => .ref 16
  | _ => .none
noncomputable def locA (a : Nat) : Loc := aput (aput loc0 v_at (.int a)) v_row (rowR a)
noncomputable def usA : List AV := [.str [100, 105, 115, 112, 108, 97, 121], .str [112, 97, 99, 107, 101, 100], .str [98, 105, 110, 97, 114, 121], .str [105, 110, 100, 101, 120]]
noncomputable def ledA : Led := (513, .tup usA) :: led0
noncomputable def flB : List AV := [.ref 513, .ref 514, .ref 515]
noncomputable def ledB : Led := (516, .tup flB) :: (515, .tup [.bool false, .bool false, .bool true]) :: (514, .tup [.bool false, .bool true, .bool false]) :: (513, .tup [.bool true, .bool false, .bool false]) :: led0
noncomputable def ledD : Led := (513, .tup [.int 0, .int 19, .int 20]) :: led0
theorem kn_A : keepNew 513 (fun _ => false) ledA = led0 ∧ keepNew 514 (fun _ => false) ledA = ledA := ⟨rfl, rfl⟩
theorem kn_B : keepNew 513 (fun _ => false) ledB = led0 ∧ keepNew 517 (fun _ => false) ledB = ledB := ⟨rfl, rfl⟩
theorem kn_D : keepNew 513 (fun _ => false) ledD = led0 ∧ keepNew 513 (fun _ => false) led0 = led0 := ⟨rfl, rfl⟩
noncomputable def ledR : Led := keepIf (fun i => Nat.blt i 19) led0
noncomputable def locR : Loc := [(v_script, .ref 0), (v_rows, .ref 18)]
theorem pre_1 : R1.ex fiL [(v_script, .ref 0)] lw_rows ⟨[], 1⟩ = .next locR ⟨ledR, 19⟩ := by kernel_rfl
theorem pre_2 : R1.ex fiL locR lw_pics ⟨ledR, 19⟩ = .next loc0 ⟨led0, nxt0⟩ := by kernel_rfl
theorem ev_ia (l : Loc) : R1.ev fiL l lw_ia ⟨led0, nxt0⟩ = .ok (.ref 513) ⟨ledA, 514⟩ := by kernel_rfl
theorem ev_ib (l : Loc) : R1.ev fiL l lw_ib ⟨led0, nxt0⟩ = .ok (.ref 516) ⟨ledB, 517⟩ := by kernel_rfl
theorem tA_0_0 : outN (R1.exs fiL (aput (locA 0) v_usage (.str [100, 105, 115, 112, 108, 97, 121])) lw_ba ⟨ledA, 514⟩) = some (aput (locA 0) v_usage (.str [100, 105, 115, 112, 108, 97, 121]), ledA) := by kernel_rfl
theorem tA_0_1 : outN (R1.exs fiL (aput (locA 0) v_usage (.str [112, 97, 99, 107, 101, 100])) lw_ba ⟨ledA, 514⟩) = some (aput (locA 0) v_usage (.str [112, 97, 99, 107, 101, 100]), ledA) := by kernel_rfl
theorem tA_0_2 : outN (R1.exs fiL (aput (locA 0) v_usage (.str [98, 105, 110, 97, 114, 121])) lw_ba ⟨ledA, 514⟩) = some (aput (locA 0) v_usage (.str [98, 105, 110, 97, 114, 121]), ledA) := by kernel_rfl
theorem tA_0_3 : outN (R1.exs fiL (aput (locA 0) v_usage (.str [105, 110, 100, 101, 120])) lw_ba ⟨ledA, 514⟩) = some (aput (locA 0) v_usage (.str [105, 110, 100, 101, 120]), ledA) := by kernel_rfl
theorem tB_0_0 : outN (R1.exs fiL (aput (locA 0) v_flags (.ref 513)) lw_bb ⟨ledB, 517⟩) = some (aput (locA 0) v_flags (.ref 513), ledB) := by kernel_rfl
theorem tB_0_1 : outN (R1.exs fiL (aput (locA 0) v_flags (.ref 514)) lw_bb ⟨ledB, 517⟩) = some (aput (locA 0) v_flags (.ref 514), ledB) := by kernel_rfl
theorem tB_0_2 : outN (R1.exs fiL (aput (locA 0) v_flags (.ref 515)) lw_bb ⟨ledB, 517⟩) = some (aput (locA 0) v_flags (.ref 515), ledB) := by kernel_rfl
theorem tC_0 : outN (R1.ex fiL (locA 0) lw_c ⟨led0, nxt0⟩) = some (locA 0, led0) := by kernel_rfl
theorem tA_1_0 : outN (R1.exs fiL (aput (locA 1) v_usage (.str [100, 105, 115, 112, 108, 97, 121])) lw_ba ⟨ledA, 514⟩) = some (aput (locA 1) v_usage (.str [100, 105, 115, 112, 108, 97, 121]), ledA) := by kernel_rfl
theorem tA_1_1 : outN (R1.exs fiL (aput (locA 1) v_usage (.str [112, 97, 99, 107, 101, 100])) lw_ba ⟨ledA, 514⟩) = some (aput (locA 1) v_usage (.str [112, 97, 99, 107, 101, 100]), ledA) := by kernel_rfl
theorem tA_1_2 : outN (R1.exs fiL (aput (locA 1) v_usage (.str [98, 105, 110, 97, 114, 121])) lw_ba ⟨ledA, 514⟩) = some (aput (locA 1) v_usage (.str [98, 105, 110, 97, 114, 121]), ledA) := by kernel_rfl
theorem tA_1_3 : outN (R1.exs fiL (aput (locA 1) v_usage (.str [105, 110, 100, 101, 120])) lw_ba ⟨ledA, 514⟩) = some (aput (locA 1) v_usage (.str [105, 110, 100, 101, 120]), ledA) := by kernel_rfl
theorem tB_1_0 : outN (R1.exs fiL (aput (locA 1) v_flags (.ref 513)) lw_bb ⟨ledB, 517⟩) = some (aput (locA 1) v_flags (.ref 513), ledB) := by kernel_rfl
theorem tB_1_1 : outN (R1.exs fiL (aput (locA 1) v_flags (.ref 514)) lw_bb ⟨ledB, 517⟩) = some (aput (locA 1) v_flags (.ref 514), ledB) := by kernel_rfl
theorem tB_1_2 : outN (R1.exs fiL (aput (locA 1) v_flags (.ref 515)) lw_bb ⟨ledB, 517⟩) = some (aput (locA 1) v_flags (.ref 515), ledB) := by kernel_rfl
theorem tC_1 : outN (R1.ex fiL (locA 1) lw_c ⟨led0, nxt0⟩) = some (locA 1, led0) := by kernel_rfl
theorem tA_2_0 : outN (R1.exs fiL (aput (locA 2) v_usage (.str [100, 105, 115, 112, 108, 97, 121])) lw_ba ⟨ledA, 514⟩) = some (aput (locA 2) v_usage (.str [100, 105, 115, 112, 108, 97, 121]), ledA) := by kernel_rfl
theorem tA_2_1 : outN (R1.exs fiL (aput (locA 2) v_usage (.str [112, 97, 99, 107, 101, 100])) lw_ba ⟨ledA, 514⟩) = some (aput (locA 2) v_usage (.str [112, 97, 99, 107, 101, 100]), ledA) := by kernel_rfl
theorem tA_2_2 : outN (R1.exs fiL (aput (locA 2) v_usage (.str [98, 105, 110, 97, 114, 121])) lw_ba ⟨ledA, 514⟩) = some (aput (locA 2) v_usage (.str [98, 105, 110, 97, 114, 121]), ledA) := by kernel_rfl
theorem tA_2_3 : outN (R1.exs fiL (aput (locA 2) v_usage (.str [105, 110, 100, 101, 120])) lw_ba ⟨ledA, 514⟩) = some (aput (locA 2) v_usage (.str [105, 110, 100, 101, 120]), ledA) := by kernel_rfl
theorem tB_2_0 : outN (R1.exs fiL (aput (locA 2) v_flags (.ref 513)) lw_bb ⟨ledB, 517⟩) = some (aput (locA 2) v_flags (.ref 513), ledB) := by kernel_rfl
theorem tB_2_1 : outN (R1.exs fiL (aput (locA 2) v_flags (.ref 514)) lw_bb ⟨ledB, 517⟩) = some (aput (locA 2) v_flags (.ref 514), ledB) := by kernel_rfl
theorem tB_2_2 : outN (R1.exs fiL (aput (locA 2) v_flags (.ref 515)) lw_bb ⟨ledB, 517⟩) = some (aput (locA 2) v_flags (.ref 515), ledB) := by kernel_rfl
theorem tC_2 : outN (R1.ex fiL (locA 2) lw_c ⟨led0, nxt0⟩) = some (locA 2, led0) := by kernel_rfl
theorem tA_3_0 : outN (R1.exs fiL (aput (locA 3) v_usage (.str [100, 105, 115, 112, 108, 97, 121])) lw_ba ⟨ledA, 514⟩) = some (aput (locA 3) v_usage (.str [100, 105, 115, 112, 108, 97, 121]), ledA) := by kernel_rfl
theorem tA_3_1 : outN (R1.exs fiL (aput (locA 3) v_usage (.str [112, 97, 99, 107, 101, 100])) lw_ba ⟨ledA, 514⟩) = some (aput (locA 3) v_usage (.str [112, 97, 99, 107, 101, 100]), ledA) := by kernel_rfl
theorem tA_3_2 : outN (R1.exs fiL (aput (locA 3) v_usage (.str [98, 105, 110, 97, 114, 121])) lw_ba ⟨ledA, 514⟩) = some (aput (locA 3) v_usage (.str [98, 105, 110, 97, 114, 121]), ledA) := by kernel_rfl
theorem tA_3_3 : outN (R1.exs fiL (aput (locA 3) v_usage (.str [105, 110, 100, 101, 120])) lw_ba ⟨ledA, 514⟩) = some (aput (locA 3) v_usage (.str [105, 110, 100, 101, 120]), ledA) := by kernel_rfl
theorem tB_3_0 : outN (R1.exs fiL (aput (locA 3) v_flags (.ref 513)) lw_bb ⟨ledB, 517⟩) = some (aput (locA 3) v_flags (.ref 513), ledB) := by kernel_rfl
theorem tB_3_1 : outN (R1.exs fiL (aput (locA 3) v_flags (.ref 514)) lw_bb ⟨ledB, 517⟩) = some (aput (locA 3) v_flags (.ref 514), ledB) := by kernel_rfl
theorem tB_3_2 : outN (R1.exs fiL (aput (locA 3) v_flags (.ref 515)) lw_bb ⟨ledB, 517⟩) = some (aput (locA 3) v_flags (.ref 515), ledB) := by kernel_rfl
theorem tC_3 : outN (R1.ex fiL (locA 3) lw_c ⟨led0, nxt0⟩) = some (locA 3, led0) := by kernel_rfl
theorem tA_4_0 : outN (R1.exs fiL (aput (locA 4) v_usage (.str [100, 105, 115, 112, 108, 97, 121])) lw_ba ⟨ledA, 514⟩) = some (aput (locA 4) v_usage (.str [100, 105, 115, 112, 108, 97, 121]), ledA) := by kernel_rfl
theorem tA_4_1 : outN (R1.exs fiL (aput (locA 4) v_usage (.str [112, 97, 99, 107, 101, 100])) lw_ba ⟨ledA, 514⟩) = some (aput (locA 4) v_usage (.str [112, 97, 99, 107, 101, 100]), ledA) := by kernel_rfl
theorem tA_4_2 : outN (R1.exs fiL (aput (locA 4) v_usage (.str [98, 105, 110, 97, 114, 121])) lw_ba ⟨ledA, 514⟩) = some (aput (locA 4) v_usage (.str [98, 105, 110, 97, 114, 121]), ledA) := by kernel_rfl
theorem tA_4_3 : outN (R1.exs fiL (aput (locA 4) v_usage (.str [105, 110, 100, 101, 120])) lw_ba ⟨ledA, 514⟩) = some (aput (locA 4) v_usage (.str [105, 110, 100, 101, 120]), ledA) := by kernel_rfl
theorem tB_4_0 : outN (R1.exs fiL (aput (locA 4) v_flags (.ref 513)) lw_bb ⟨ledB, 517⟩) = some (aput (locA 4) v_flags (.ref 513), ledB) := by kernel_rfl
theorem tB_4_1 : outN (R1.exs fiL (aput (locA 4) v_flags (.ref 514)) lw_bb ⟨ledB, 517⟩) = some (aput (locA 4) v_flags (.ref 514), ledB) := by kernel_rfl
theorem tB_4_2 : outN (R1.exs fiL (aput (locA 4) v_flags (.ref 515)) lw_bb ⟨ledB, 517⟩) = some (aput (locA 4) v_flags (.ref 515), ledB) := by kernel_rfl
theorem tC_4 : outN (R1.ex fiL (locA 4) lw_c ⟨led0, nxt0⟩) = some (locA 4, led0) := by kernel_rfl
theorem tA_5_0 : outN (R1.exs fiL (aput (locA 5) v_usage (.str [100, 105, 115, 112, 108, 97, 121])) lw_ba ⟨ledA, 514⟩) = some (aput (locA 5) v_usage (.str [100, 105, 115, 112, 108, 97, 121]), ledA) := by kernel_rfl
theorem tA_5_1 : outN (R1.exs fiL (aput (locA 5) v_usage (.str [112, 97, 99, 107, 101, 100])) lw_ba ⟨ledA, 514⟩) = some (aput (locA 5) v_usage (.str [112, 97, 99, 107, 101, 100]), ledA) := by kernel_rfl
theorem tA_5_2 : outN (R1.exs fiL (aput (locA 5) v_usage (.str [98, 105, 110, 97, 114, 121])) lw_ba ⟨ledA, 514⟩) = some (aput (locA 5) v_usage (.str [98, 105, 110, 97, 114, 121]), ledA) := by kernel_rfl
theorem tA_5_3 : outN (R1.exs fiL (aput (locA 5) v_usage (.str [105, 110, 100, 101, 120])) lw_ba ⟨ledA, 514⟩) = some (aput (locA 5) v_usage (.str [105, 110, 100, 101, 120]), ledA) := by kernel_rfl
theorem tB_5_0 : outN (R1.exs fiL (aput (locA 5) v_flags (.ref 513)) lw_bb ⟨ledB, 517⟩) = some (aput (locA 5) v_flags (.ref 513), ledB) := by kernel_rfl
theorem tB_5_1 : outN (R1.exs fiL (aput (locA 5) v_flags (.ref 514)) lw_bb ⟨ledB, 517⟩) = some (aput (locA 5) v_flags (.ref 514), ledB) := by kernel_rfl
theorem tB_5_2 : outN (R1.exs fiL (aput (locA 5) v_flags (.ref 515)) lw_bb ⟨ledB, 517⟩) = some (aput (locA 5) v_flags (.ref 515), ledB) := by kernel_rfl
theorem tC_5 : outN (R1.ex fiL (locA 5) lw_c ⟨led0, nxt0⟩) = some (locA 5, led0) := by kernel_rfl
theorem tA_6_0 : outN (R1.exs fiL (aput (locA 6) v_usage (.str [100, 105, 115, 112, 108, 97, 121])) lw_ba ⟨ledA, 514⟩) = some (aput (locA 6) v_usage (.str [100, 105, 115, 112, 108, 97, 121]), ledA) := by kernel_rfl
theorem tA_6_1 : outN (R1.exs fiL (aput (locA 6) v_usage (.str [112, 97, 99, 107, 101, 100])) lw_ba ⟨ledA, 514⟩) = some (aput (locA 6) v_usage (.str [112, 97, 99, 107, 101, 100]), ledA) := by kernel_rfl
theorem tA_6_2 : outN (R1.exs fiL (aput (locA 6) v_usage (.str [98, 105, 110, 97, 114, 121])) lw_ba ⟨ledA, 514⟩) = some (aput (locA 6) v_usage (.str [98, 105, 110, 97, 114, 121]), ledA) := by kernel_rfl
theorem tA_6_3 : outN (R1.exs fiL (aput (locA 6) v_usage (.str [105, 110, 100, 101, 120])) lw_ba ⟨ledA, 514⟩) = some (aput (locA 6) v_usage (.str [105, 110, 100, 101, 120]), ledA) := by kernel_rfl
theorem tB_6_0 : outN (R1.exs fiL (aput (locA 6) v_flags (.ref 513)) lw_bb ⟨ledB, 517⟩) = some (aput (locA 6) v_flags (.ref 513), ledB) := by kernel_rfl
theorem tB_6_1 : outN (R1.exs fiL (aput (locA 6) v_flags (.ref 514)) lw_bb ⟨ledB, 517⟩) = some (aput (locA 6) v_flags (.ref 514), ledB) := by kernel_rfl
theorem tB_6_2 : outN (R1.exs fiL (aput (locA 6) v_flags (.ref 515)) lw_bb ⟨ledB, 517⟩) = some (aput (locA 6) v_flags (.ref 515), ledB) := by kernel_rfl
theorem tC_6 : outN (R1.ex fiL (locA 6) lw_c ⟨led0, nxt0⟩) = some (locA 6, led0) := by kernel_rfl
theorem tA_7_0 : outN (R1.exs fiL (aput (locA 7) v_usage (.str [100, 105, 115, 112, 108, 97, 121])) lw_ba ⟨ledA, 514⟩) = some (aput (locA 7) v_usage (.str [100, 105, 115, 112, 108, 97, 121]), ledA) := by kernel_rfl
theorem tA_7_1 : outN (R1.exs fiL (aput (locA 7) v_usage (.str [112, 97, 99, 107, 101, 100])) lw_ba ⟨ledA, 514⟩) = some (aput (locA 7) v_usage (.str [112, 97, 99, 107, 101, 100]), ledA) := by kernel_rfl
theorem tA_7_2 : outN (R1.exs fiL (aput (locA 7) v_usage (.str [98, 105, 110, 97, 114, 121])) lw_ba ⟨ledA, 514⟩) = some (aput (locA 7) v_usage (.str [98, 105, 110, 97, 114, 121]), ledA) := by kernel_rfl
theorem tA_7_3 : outN (R1.exs fiL (aput (locA 7) v_usage (.str [105, 110, 100, 101, 120])) lw_ba ⟨ledA, 514⟩) = some (aput (locA 7) v_usage (.str [105, 110, 100, 101, 120]), ledA) := by kernel_rfl
theorem tB_7_0 : outN (R1.exs fiL (aput (locA 7) v_flags (.ref 513)) lw_bb ⟨ledB, 517⟩) = some (aput (locA 7) v_flags (.ref 513), ledB) := by kernel_rfl
theorem tB_7_1 : outN (R1.exs fiL (aput (locA 7) v_flags (.ref 514)) lw_bb ⟨ledB, 517⟩) = some (aput (locA 7) v_flags (.ref 514), ledB) := by kernel_rfl
theorem tB_7_2 : outN (R1.exs fiL (aput (locA 7) v_flags (.ref 515)) lw_bb ⟨ledB, 517⟩) = some (aput (locA 7) v_flags (.ref 515), ledB) := by kernel_rfl
theorem tC_7 : outN (R1.ex fiL (locA 7) lw_c ⟨led0, nxt0⟩) = some (locA 7, led0) := by kernel_rfl
theorem tA_8_0 : outN (R1.exs fiL (aput (locA 8) v_usage (.str [100, 105, 115, 112, 108, 97, 121])) lw_ba ⟨ledA, 514⟩) = some (aput (locA 8) v_usage (.str [100, 105, 115, 112, 108, 97, 121]), ledA) := by kernel_rfl
theorem tA_8_1 : outN (R1.exs fiL (aput (locA 8) v_usage (.str [112, 97, 99, 107, 101, 100])) lw_ba ⟨ledA, 514⟩) = some (aput (locA 8) v_usage (.str [112, 97, 99, 107, 101, 100]), ledA) := by kernel_rfl
theorem tA_8_2 : outN (R1.exs fiL (aput (locA 8) v_usage (.str [98, 105, 110, 97, 114, 121])) lw_ba ⟨ledA, 514⟩) = some (aput (locA 8) v_usage (.str [98, 105, 110, 97, 114, 121]), ledA) := by kernel_rfl
theorem tA_8_3 : outN (R1.exs fiL (aput (locA 8) v_usage (.str [105, 110, 100, 101, 120])) lw_ba ⟨ledA, 514⟩) = some (aput (locA 8) v_usage (.str [105, 110, 100, 101, 120]), ledA) := by kernel_rfl
theorem tB_8_0 : outN (R1.exs fiL (aput (locA 8) v_flags (.ref 513)) lw_bb ⟨ledB, 517⟩) = some (aput (locA 8) v_flags (.ref 513), ledB) := by kernel_rfl
theorem tB_8_1 : outN (R1.exs fiL (aput (locA 8) v_flags (.ref 514)) lw_bb ⟨ledB, 517⟩) = some (aput (locA 8) v_flags (.ref 514), ledB) := by kernel_rfl
theorem tB_8_2 : outN (R1.exs fiL (aput (locA 8) v_flags (.ref 515)) lw_bb ⟨ledB, 517⟩) = some (aput (locA 8) v_flags (.ref 515), ledB) := by kernel_rfl
theorem tC_8 : outN (R1.ex fiL (locA 8) lw_c ⟨led0, nxt0⟩) = some (locA 8, led0) := by kernel_rfl
theorem tA_9_0 : outN (R1.exs fiL (aput (locA 9) v_usage (.str [100, 105, 115, 112, 108, 97, 121])) lw_ba ⟨ledA, 514⟩) = some (aput (locA 9) v_usage (.str [100, 105, 115, 112, 108, 97, 121]), ledA) := by kernel_rfl
theorem tA_9_1 : outN (R1.exs fiL (aput (locA 9) v_usage (.str [112, 97, 99, 107, 101, 100])) lw_ba ⟨ledA, 514⟩) = some (aput (locA 9) v_usage (.str [112, 97, 99, 107, 101, 100]), ledA) := by kernel_rfl
theorem tA_9_2 : outN (R1.exs fiL (aput (locA 9) v_usage (.str [98, 105, 110, 97, 114, 121])) lw_ba ⟨ledA, 514⟩) = some (aput (locA 9) v_usage (.str [98, 105, 110, 97, 114, 121]), ledA) := by kernel_rfl
theorem tA_9_3 : outN (R1.exs fiL (aput (locA 9) v_usage (.str [105, 110, 100, 101, 120])) lw_ba ⟨ledA, 514⟩) = some (aput (locA 9) v_usage (.str [105, 110, 100, 101, 120]), ledA) := by kernel_rfl
theorem tB_9_0 : outN (R1.exs fiL (aput (locA 9) v_flags (.ref 513)) lw_bb ⟨ledB, 517⟩) = some (aput (locA 9) v_flags (.ref 513), ledB) := by kernel_rfl
theorem tB_9_1 : outN (R1.exs fiL (aput (locA 9) v_flags (.ref 514)) lw_bb ⟨ledB, 517⟩) = some (aput (locA 9) v_flags (.ref 514), ledB) := by kernel_rfl
theorem tB_9_2 : outN (R1.exs fiL (aput (locA 9) v_flags (.ref 515)) lw_bb ⟨ledB, 517⟩) = some (aput (locA 9) v_flags (.ref 515), ledB) := by kernel_rfl
theorem tC_9 : outN (R1.ex fiL (locA 9) lw_c ⟨led0, nxt0⟩) = some (locA 9, led0) := by kernel_rfl
theorem tA_10_0 : outN (R1.exs fiL (aput (locA 10) v_usage (.str [100, 105, 115, 112, 108, 97, 121])) lw_ba ⟨ledA, 514⟩) = some (aput (locA 10) v_usage (.str [100, 105, 115, 112, 108, 97, 121]), ledA) := by kernel_rfl
theorem tA_10_1 : outN (R1.exs fiL (aput (locA 10) v_usage (.str [112, 97, 99, 107, 101, 100])) lw_ba ⟨ledA, 514⟩) = some (aput (locA 10) v_usage (.str [112, 97, 99, 107, 101, 100]), ledA) := by kernel_rfl
theorem tA_10_2 : outN (R1.exs fiL (aput (locA 10) v_usage (.str [98, 105, 110, 97, 114, 121])) lw_ba ⟨ledA, 514⟩) = some (aput (locA 10) v_usage (.str [98, 105, 110, 97, 114, 121]), ledA) := by kernel_rfl
theorem tA_10_3 : outN (R1.exs fiL (aput (locA 10) v_usage (.str [105, 110, 100, 101, 120])) lw_ba ⟨ledA, 514⟩) = some (aput (locA 10) v_usage (.str [105, 110, 100, 101, 120]), ledA) := by kernel_rfl
theorem tB_10_0 : outN (R1.exs fiL (aput (locA 10) v_flags (.ref 513)) lw_bb ⟨ledB, 517⟩) = some (aput (locA 10) v_flags (.ref 513), ledB) := by kernel_rfl
theorem tB_10_1 : outN (R1.exs fiL (aput (locA 10) v_flags (.ref 514)) lw_bb ⟨ledB, 517⟩) = some (aput (locA 10) v_flags (.ref 514), ledB) := by kernel_rfl
theorem tB_10_2 : outN (R1.exs fiL (aput (locA 10) v_flags (.ref 515)) lw_bb ⟨ledB, 517⟩) = some (aput (locA 10) v_flags (.ref 515), ledB) := by kernel_rfl
theorem tC_10 : outN (R1.ex fiL (locA 10) lw_c ⟨led0, nxt0⟩) = some (locA 10, led0) := by kernel_rfl
theorem tD_0 : outN (R1.exs fiL (aput loc0 v_digits (.int 0)) lw_b2 ⟨led0, nxt0⟩) = some (aput (aput loc0 v_digits (.int 0)) v_due (.int 0), ledD) := by kernel_rfl
theorem tD_1 : outN (R1.exs fiL (aput loc0 v_digits (.int 1)) lw_b2 ⟨led0, nxt0⟩) = some (aput (aput loc0 v_digits (.int 1)) v_due (.int 2), ledD) := by kernel_rfl
theorem tD_2 : outN (R1.exs fiL (aput loc0 v_digits (.int 2)) lw_b2 ⟨led0, nxt0⟩) = some (aput (aput loc0 v_digits (.int 2)) v_due (.int 2), ledD) := by kernel_rfl
theorem tD_3 : outN (R1.exs fiL (aput loc0 v_digits (.int 3)) lw_b2 ⟨led0, nxt0⟩) = some (aput (aput loc0 v_digits (.int 3)) v_due (.int 2), ledD) := by kernel_rfl
theorem tD_4 : outN (R1.exs fiL (aput loc0 v_digits (.int 4)) lw_b2 ⟨led0, nxt0⟩) = some (aput (aput loc0 v_digits (.int 4)) v_due (.int 2), ledD) := by kernel_rfl
theorem tD_5 : outN (R1.exs fiL (aput loc0 v_digits (.int 5)) lw_b2 ⟨led0, nxt0⟩) = some (aput (aput loc0 v_digits (.int 5)) v_due (.int 4), ledD) := by kernel_rfl
theorem tD_6 : outN (R1.exs fiL (aput loc0 v_digits (.int 6)) lw_b2 ⟨led0, nxt0⟩) = some (aput (aput loc0 v_digits (.int 6)) v_due (.int 4), ledD) := by kernel_rfl
theorem tD_7 : outN (R1.exs fiL (aput loc0 v_digits (.int 7)) lw_b2 ⟨led0, nxt0⟩) = some (aput (aput loc0 v_digits (.int 7)) v_due (.int 4), ledD) := by kernel_rfl
theorem tD_8 : outN (R1.exs fiL (aput loc0 v_digits (.int 8)) lw_b2 ⟨led0, nxt0⟩) = some (aput (aput loc0 v_digits (.int 8)) v_due (.int 4), ledD) := by kernel_rfl
theorem tD_9 : outN (R1.exs fiL (aput loc0 v_digits (.int 9)) lw_b2 ⟨led0, nxt0⟩) = some (aput (aput loc0 v_digits (.int 9)) v_due (.int 4), ledD) := by kernel_rfl
theorem tD_10 : outN (R1.exs fiL (aput loc0 v_digits (.int 10)) lw_b2 ⟨led0, nxt0⟩) = some (aput (aput loc0 v_digits (.int 10)) v_due (.int 8), ledD) := by kernel_rfl
theorem tD_11 : outN (R1.exs fiL (aput loc0 v_digits (.int 11)) lw_b2 ⟨led0, nxt0⟩) = some (aput (aput loc0 v_digits (.int 11)) v_due (.int 8), ledD) := by kernel_rfl
theorem tD_12 : outN (R1.exs fiL (aput loc0 v_digits (.int 12)) lw_b2 ⟨led0, nxt0⟩) = some (aput (aput loc0 v_digits (.int 12)) v_due (.int 8), ledD) := by kernel_rfl
theorem tD_13 : outN (R1.exs fiL (aput loc0 v_digits (.int 13)) lw_b2 ⟨led0, nxt0⟩) = some (aput (aput loc0 v_digits (.int 13)) v_due (.int 8), ledD) := by kernel_rfl
theorem tD_14 : outN (R1.exs fiL (aput loc0 v_digits (.int 14)) lw_b2 ⟨led0, nxt0⟩) = some (aput (aput loc0 v_digits (.int 14)) v_due (.int 8), ledD) := by kernel_rfl
theorem tD_15 : outN (R1.exs fiL (aput loc0 v_digits (.int 15)) lw_b2 ⟨led0, nxt0⟩) = some (aput (aput loc0 v_digits (.int 15)) v_due (.int 8), ledD) := by kernel_rfl
theorem tD_16 : outN (R1.exs fiL (aput loc0 v_digits (.int 16)) lw_b2 ⟨led0, nxt0⟩) = some (aput (aput loc0 v_digits (.int 16)) v_due (.int 8), ledD) := by kernel_rfl
theorem tD_17 : outN (R1.exs fiL (aput loc0 v_digits (.int 17)) lw_b2 ⟨led0, nxt0⟩) = some (aput (aput loc0 v_digits (.int 17)) v_due (.int 8), ledD) := by kernel_rfl
theorem tD_18 : outN (R1.exs fiL (aput loc0 v_digits (.int 18)) lw_b2 ⟨led0, nxt0⟩) = some (aput (aput loc0 v_digits (.int 18)) v_due (.int 8), ledD) := by kernel_rfl
theorem tD_19 : outN (R1.exs fiL (aput loc0 v_digits (.int 19)) lw_b2 ⟨led0, nxt0⟩) = some (aput (aput loc0 v_digits (.int 19)) v_due (.int 0), ledD) := by kernel_rfl
theorem tD_20 : outN (R1.exs fiL (aput loc0 v_digits (.int 20)) lw_b2 ⟨led0, nxt0⟩) = some (aput (aput loc0 v_digits (.int 20)) v_due (.int 0), ledD) := by kernel_rfl
theorem tA_all : ∀ a, a < 11 → ∀ v ∈ usA, outN (R1.exs fiL (aput (locA a) v_usage v) lw_ba ⟨ledA, 514⟩) = some (aput (locA a) v_usage v, ledA) := by
  intro a ha
  match a, ha with
  | 0, _ => exact List.forall_mem_cons.mpr ⟨tA_0_0, List.forall_mem_cons.mpr ⟨tA_0_1, List.forall_mem_cons.mpr ⟨tA_0_2, List.forall_mem_cons.mpr ⟨tA_0_3, fun _ h => nomatch h⟩⟩⟩⟩
  | 1, _ => exact List.forall_mem_cons.mpr ⟨tA_1_0, List.forall_mem_cons.mpr ⟨tA_1_1, List.forall_mem_cons.mpr ⟨tA_1_2, List.forall_mem_cons.mpr ⟨tA_1_3, fun _ h => nomatch h⟩⟩⟩⟩
  | 2, _ => exact List.forall_mem_cons.mpr ⟨tA_2_0, List.forall_mem_cons.mpr ⟨tA_2_1, List.forall_mem_cons.mpr ⟨tA_2_2, List.forall_mem_cons.mpr ⟨tA_2_3, fun _ h => nomatch h⟩⟩⟩⟩
  | 3, _ => exact List.forall_mem_cons.mpr ⟨tA_3_0, List.forall_mem_cons.mpr ⟨tA_3_1, List.forall_mem_cons.mpr ⟨tA_3_2, List.forall_mem_cons.mpr ⟨tA_3_3, fun _ h => nomatch h⟩⟩⟩⟩
  | 4, _ => exact List.forall_mem_cons.mpr ⟨tA_4_0, List.forall_mem_cons.mpr ⟨tA_4_1, List.forall_mem_cons.mpr ⟨tA_4_2, List.forall_mem_cons.mpr ⟨tA_4_3, fun _ h => nomatch h⟩⟩⟩⟩
  | 5, _ => exact List.forall_mem_cons.mpr ⟨tA_5_0, List.forall_mem_cons.mpr ⟨tA_5_1, List.forall_mem_cons.mpr ⟨tA_5_2, List.forall_mem_cons.mpr ⟨tA_5_3, fun _ h => nomatch h⟩⟩⟩⟩
  | 6, _ => exact List.forall_mem_cons.mpr ⟨tA_6_0, List.forall_mem_cons.mpr ⟨tA_6_1, List.forall_mem_cons.mpr ⟨tA_6_2, List.forall_mem_cons.mpr ⟨tA_6_3, fun _ h => nomatch h⟩⟩⟩⟩
  | 7, _ => exact List.forall_mem_cons.mpr ⟨tA_7_0, List.forall_mem_cons.mpr ⟨tA_7_1, List.forall_mem_cons.mpr ⟨tA_7_2, List.forall_mem_cons.mpr ⟨tA_7_3, fun _ h => nomatch h⟩⟩⟩⟩
  | 8, _ => exact List.forall_mem_cons.mpr ⟨tA_8_0, List.forall_mem_cons.mpr ⟨tA_8_1, List.forall_mem_cons.mpr ⟨tA_8_2, List.forall_mem_cons.mpr ⟨tA_8_3, fun _ h => nomatch h⟩⟩⟩⟩
  | 9, _ => exact List.forall_mem_cons.mpr ⟨tA_9_0, List.forall_mem_cons.mpr ⟨tA_9_1, List.forall_mem_cons.mpr ⟨tA_9_2, List.forall_mem_cons.mpr ⟨tA_9_3, fun _ h => nomatch h⟩⟩⟩⟩
  | 10, _ => exact List.forall_mem_cons.mpr ⟨tA_10_0, List.forall_mem_cons.mpr ⟨tA_10_1, List.forall_mem_cons.mpr ⟨tA_10_2, List.forall_mem_cons.mpr ⟨tA_10_3, fun _ h => nomatch h⟩⟩⟩⟩
  | n + 11, h => omega
theorem tB_all : ∀ a, a < 11 → ∀ v ∈ flB, outN (R1.exs fiL (aput (locA a) v_flags v) lw_bb ⟨ledB, 517⟩) = some (aput (locA a) v_flags v, ledB) := by
  intro a ha
  match a, ha with
  | 0, _ => exact List.forall_mem_cons.mpr ⟨tB_0_0, List.forall_mem_cons.mpr ⟨tB_0_1, List.forall_mem_cons.mpr ⟨tB_0_2, fun _ h => nomatch h⟩⟩⟩
  | 1, _ => exact List.forall_mem_cons.mpr ⟨tB_1_0, List.forall_mem_cons.mpr ⟨tB_1_1, List.forall_mem_cons.mpr ⟨tB_1_2, fun _ h => nomatch h⟩⟩⟩
  | 2, _ => exact List.forall_mem_cons.mpr ⟨tB_2_0, List.forall_mem_cons.mpr ⟨tB_2_1, List.forall_mem_cons.mpr ⟨tB_2_2, fun _ h => nomatch h⟩⟩⟩
  | 3, _ => exact List.forall_mem_cons.mpr ⟨tB_3_0, List.forall_mem_cons.mpr ⟨tB_3_1, List.forall_mem_cons.mpr ⟨tB_3_2, fun _ h => nomatch h⟩⟩⟩
  | 4, _ => exact List.forall_mem_cons.mpr ⟨tB_4_0, List.forall_mem_cons.mpr ⟨tB_4_1, List.forall_mem_cons.mpr ⟨tB_4_2, fun _ h => nomatch h⟩⟩⟩
  | 5, _ => exact List.forall_mem_cons.mpr ⟨tB_5_0, List.forall_mem_cons.mpr ⟨tB_5_1, List.forall_mem_cons.mpr ⟨tB_5_2, fun _ h => nomatch h⟩⟩⟩
  | 6, _ => exact List.forall_mem_cons.mpr ⟨tB_6_0, List.forall_mem_cons.mpr ⟨tB_6_1, List.forall_mem_cons.mpr ⟨tB_6_2, fun _ h => nomatch h⟩⟩⟩
  | 7, _ => exact List.forall_mem_cons.mpr ⟨tB_7_0, List.forall_mem_cons.mpr ⟨tB_7_1, List.forall_mem_cons.mpr ⟨tB_7_2, fun _ h => nomatch h⟩⟩⟩
  | 8, _ => exact List.forall_mem_cons.mpr ⟨tB_8_0, List.forall_mem_cons.mpr ⟨tB_8_1, List.forall_mem_cons.mpr ⟨tB_8_2, fun _ h => nomatch h⟩⟩⟩
  | 9, _ => exact List.forall_mem_cons.mpr ⟨tB_9_0, List.forall_mem_cons.mpr ⟨tB_9_1, List.forall_mem_cons.mpr ⟨tB_9_2, fun _ h => nomatch h⟩⟩⟩
  | 10, _ => exact List.forall_mem_cons.mpr ⟨tB_10_0, List.forall_mem_cons.mpr ⟨tB_10_1, List.forall_mem_cons.mpr ⟨tB_10_2, fun _ h => nomatch h⟩⟩⟩
  | n + 11, h => omega
theorem tC_all : ∀ a, a < 11 → outN (R1.ex fiL (locA a) lw_c ⟨led0, nxt0⟩) = some (locA a, led0) := by
  intro a ha
  match a, ha with
  | 0, _ => exact tC_0
  | 1, _ => exact tC_1
  | 2, _ => exact tC_2
  | 3, _ => exact tC_3
  | 4, _ => exact tC_4
  | 5, _ => exact tC_5
  | 6, _ => exact tC_6
  | 7, _ => exact tC_7
  | 8, _ => exact tC_8
  | 9, _ => exact tC_9
  | 10, _ => exact tC_10
  | n + 11, h => omega
theorem tD_all : ∀ d, d < 21 → ∃ k, outN (R1.exs fiL (aput loc0 v_digits (.int (d : Nat))) lw_b2 ⟨led0, nxt0⟩) = some (aput (aput loc0 v_digits (.int (d : Nat))) v_due (.int k), ledD) := by
  intro d hd
  match d, hd with
  | 0, _ => exact ⟨_, tD_0⟩
  | 1, _ => exact ⟨_, tD_1⟩
  | 2, _ => exact ⟨_, tD_2⟩
  | 3, _ => exact ⟨_, tD_3⟩
  | 4, _ => exact ⟨_, tD_4⟩
  | 5, _ => exact ⟨_, tD_5⟩
  | 6, _ => exact ⟨_, tD_6⟩
  | 7, _ => exact ⟨_, tD_7⟩
  | 8, _ => exact ⟨_, tD_8⟩
  | 9, _ => exact ⟨_, tD_9⟩
  | 10, _ => exact ⟨_, tD_10⟩
  | 11, _ => exact ⟨_, tD_11⟩
  | 12, _ => exact ⟨_, tD_12⟩
  | 13, _ => exact ⟨_, tD_13⟩
  | 14, _ => exact ⟨_, tD_14⟩
  | 15, _ => exact ⟨_, tD_15⟩
  | 16, _ => exact ⟨_, tD_16⟩
  | 17, _ => exact ⟨_, tD_17⟩
  | 18, _ => exact ⟨_, tD_18⟩
  | 19, _ => exact ⟨_, tD_19⟩
  | 20, _ => exact ⟨_, tD_20⟩
  | n + 21, h => omega
end Mine
end

section
set_option maxRecDepth 100000
namespace Mine
open PySem PySem.W PyProof.Rows PySem.Calls PySem.SeqAt
/-! the law's frame: what stays, and what varies -/
structure Lw where
  prog : Program
  w : World
  p : Program
  loose : List PySem.Str
  mg : PySem.Str → Option Value
  mb : PySem.Str → Option Value
  h₀ : Heap
noncomputable def lenD (u : Int) : Int := ((Str.ofString (toString (absI u))).length : Int)
noncomputable def tbU (u : Int) : Tb := tbX (lenD u) (decide (u < 0))
noncomputable def Lw.V (P : Lw) (u : Int) : Vs := { prog := P.prog, w := P.w, u := u, tb := tbU u, p := P.p, loose := P.loose, mg := P.mg, mb := P.mb, h₀ := P.h₀ }
noncomputable abbrev Lw.W (P : Lw) (u : Int) : Wd := mkW (P.V u)
structure LwOk (P : Lw) : Prop where
  X : (hd.heap_39 P.w.params).In P.h₀
  T : TopRead P.p P.loose P.mg P.mb P.h₀
theorem figN_le : ∀ n r, figN n r ≤ n
  | 0, _ => Nat.le_refl _
  | n + 1, r => by
    show (if r = 0 then 0 else 1 + figN n (r / 10)) ≤ n + 1
    split
    · omega
    · have := figN_le n (r / 10); omega
theorem absI_nat (u : Int) : absI u = ((absI u).natAbs : Int) := by unfold absI; split <;> omega
theorem lenD_fig {u : Int} (hu : (absI u).natAbs < 10 ^ 20) : lenD u = 1 + (figN 19 ((absI u).natAbs / 10) : Nat) := by
  unfold lenD
  rw [absI_nat u]
  exact lenD_eq _ hu
theorem lenD_le {u : Int} (hu : (absI u).natAbs < 10 ^ 20) : 1 ≤ lenD u ∧ lenD u ≤ 20 := by
  rw [lenD_fig hu]
  have := figN_le 19 ((absI u).natAbs / 10)
  omega
theorem figN_lt : ∀ n k r, r < 10 ^ k → figN n r ≤ k
  | 0, _, _, _ => Nat.zero_le _
  | n + 1, 0, r, h => by
    have : r = 0 := by simpa using h
    subst this
    exact Nat.le_refl _
  | n + 1, k + 1, r, h => by
    show (if r = 0 then 0 else 1 + figN n (r / 10)) ≤ k + 1
    split
    · omega
    · have := figN_lt n k (r / 10) (by
        have : r < 10 * 10 ^ k := by rw [Nat.mul_comm, ← Nat.pow_succ]; exact h
        exact Nat.div_lt_of_lt_mul this)
      omega
theorem lenD_19 {u : Int} (hu : (absI u).natAbs < 10 ^ 19) : 1 ≤ lenD u ∧ lenD u ≤ 19 := by
  have h20 : (absI u).natAbs < 10 ^ 20 := Nat.lt_trans hu (by decide)
  rw [lenD_fig h20]
  have := figN_lt 19 18 ((absI u).natAbs / 10) (Nat.div_lt_of_lt_mul (by
    have e : (10 : Nat) * 10 ^ 18 = 10 ^ 19 := by decide
    omega))
  omega
theorem Lw.fit {u : Int} (hu : (absI u).natAbs < 10 ^ 20) : Fit (gm u) (tbU u) :=
  fitX (Int.le_trans (lenD_le hu).2 (by decide)) (by
    by_cases h : (absI u).natAbs = 0
    · rw [h]; decide
    · exact Nat.lt_trans ((Nat.log2_lt h).mpr (Nat.lt_trans hu (by decide : 10 ^ 20 < 2 ^ 67))) (by decide))
theorem Lw.sta {P : Lw} (ok : LwOk P) {u : Int} (hu : (absI u).natAbs < 10 ^ 20) : Sta (P.W u) := Mine.sta (P.V u) rfl rfl rfl ok.X ok.T (Lw.fit hu)
theorem Lw.sound {P : Lw} (ok : LwOk P) {u : Int} (hu : (absI u).natAbs < 10 ^ 20) (n : Nat) : SoundS (P.W u) (run (tbU u) n) := by
  have Sa := Lw.sta ok hu
  have Sn : Sta (mkW (P.V u).noFig) := Mine.sta (P.V u).noFig rfl rfl rfl ok.X ok.T (Lw.fit hu).noFig
  exact Mine.sound Sa (figOk (P.V u) rfl rfl rfl rfl ok.X ok.T (Lw.fit hu) (newExcOk _ Sn) (excCls _ ok.X) hu) (newExcOk _ Sa) (excCls _ ok.X) n
theorem tbU_0 : tbU 0 = tbX 1 false := by
  have : lenD 0 = 1 := by decide +kernel
  unfold tbU
  rw [this]; rfl
theorem Lw.sound0 {P : Lw} (ok : LwOk P) : SoundS (P.W 0) R1 := by
  have := Lw.sound ok (u := 0) (by decide) 200
  rw [tbU_0] at this
  exact this
/-- the frame of the law -/
structure LB (env : Env) (A : Around) (fr : List Env) (L cA : Addr) : Prop where
  fk : env.scope.kind = .function
  lo : env.locals = L
  gl : env.globals = mainGlobals
  bu : env.builtins = builtinsNs
  li : ∀ x, nelem lw_locs x = true → env.kindOf (nm x) = some .local
  gi : ∀ x, nelem lw_glbs x = true → env.kindOf (nm x) = some .globalImplicit
  un : A.units + 3000 < cLine
  hd : A.handled = none
  dp : A.depth + 120 < recursionLimit
  fs : A.frames = some fr
  ff : ∀ e ∈ fr, e.scope.kind ≠ .module ∧ e.frame = some L
  ef : env.frame = some L
  fe : ∃ outer, fr = env :: outer
  ck : env.kindOf (nm v_rest) = some .cell
  cl : env.cells.lookup (nm v_rest) = some cA
section
variable {P : Lw} {L cA : Addr} {Y : List (Addr × Obj)} {env : Env} {A : Around} {fr : List Env} {m : PySem.Str → Option Value} {ρ : List Addr} {s : Shared} {E : Value → Shared → Prop}
theorem LB.cs (b : LB env A fr L cA) (P : Lw) (u : Int) (Y : List (Addr × Obj)) (cel : List (Nat × AV)) (ce : ∀ x a, aget cel x = some a → ∃ c o v, env.kindOf (nm x) = some .cell ∧ env.cells.lookup (nm x) = some c ∧ (c, o) ∈ Y ∧ o.data = .cell (some v) ∧ ∀ ρ, VR (gm u) ρ a v) :
    Cs (P.W u) L Y ⟨lw_locs, lw_glbs, 14, cel⟩ env A fr :=
  { fk := b.fk
    lo := b.lo
    gl := b.gl
    bu := b.bu
    li := b.li
    gi := b.gi
    un := by have := b.un; show A.units + 200 * 14 + 100 < cLine; omega
    hd := b.hd
    dp := by have := b.dp; show A.depth + 8 * 14 + 4 < recursionLimit; omega
    fs := b.fs
    ff := fun e he => ⟨(b.ff e he).1, L, (b.ff e he).2, .inl rfl⟩
    ce := ce
    ef := b.ef
    fe := b.fe }
theorem LB.cs0 (b : LB env A fr L cA) (P : Lw) (u : Int) (Y : List (Addr × Obj)) : Cs (P.W u) L Y fiL env A fr := b.cs P u Y [] fun x a e => (by cases e)
theorem LB.csC (b : LB env A fr L cA) (P : Lw) (u : Int) {Y : List (Addr × Obj)} {o : Obj} {r : Int} {t : Tok} (hm : (cA, o) ∈ Y) (ho : o.data = .cell (some (.int r t))) : Cs (P.W u) L Y (fiC r) env A fr :=
  b.cs P u Y [(v_rest, .int r)] fun x a e => by
    have e : (bif Nat.beq v_rest x then some (AV.int r) else none) = some a := e
    cases z : Nat.beq v_rest x with
    | false => rw [z] at e; cases e
    | true =>
      rw [z] at e
      cases e
      have := Nat.eq_of_beq_eq_true z
      subst this
      exact ⟨cA, o, .int r t, b.ck, b.cl, hm, ho, fun ρ => .int _ _⟩
theorem bl_0 : belowL nxt0 led0 = true ∧ belowC nxt0 loc0 = true ∧ belowL 514 ledA = true ∧ belowL 517 ledB = true ∧ belowC 514 loc0 = true := ⟨by decide +kernel, by decide +kernel, by decide +kernel, by decide +kernel, by decide +kernel⟩
theorem bl_A : ∀ a, a < 11 → belowC nxt0 (locA a) = true ∧ belowC 514 (locA a) = true ∧ belowC 517 (locA a) = true ∧ aget (locA a) v_usage = none ∧ aget (locA a) v_flags = none := by
  intro a ha
  match a, ha with
  | 0, _ => exact ⟨by decide +kernel, by decide +kernel, by decide +kernel, rfl, rfl⟩
  | 1, _ => exact ⟨by decide +kernel, by decide +kernel, by decide +kernel, rfl, rfl⟩
  | 2, _ => exact ⟨by decide +kernel, by decide +kernel, by decide +kernel, rfl, rfl⟩
  | 3, _ => exact ⟨by decide +kernel, by decide +kernel, by decide +kernel, rfl, rfl⟩
  | 4, _ => exact ⟨by decide +kernel, by decide +kernel, by decide +kernel, rfl, rfl⟩
  | 5, _ => exact ⟨by decide +kernel, by decide +kernel, by decide +kernel, rfl, rfl⟩
  | 6, _ => exact ⟨by decide +kernel, by decide +kernel, by decide +kernel, rfl, rfl⟩
  | 7, _ => exact ⟨by decide +kernel, by decide +kernel, by decide +kernel, rfl, rfl⟩
  | 8, _ => exact ⟨by decide +kernel, by decide +kernel, by decide +kernel, rfl, rfl⟩
  | 9, _ => exact ⟨by decide +kernel, by decide +kernel, by decide +kernel, rfl, rfl⟩
  | 10, _ => exact ⟨by decide +kernel, by decide +kernel, by decide +kernel, rfl, rfl⟩
  | n + 11, h => omega
theorem loc_sub : ∀ a, a < 11 → SubL loc0 (locA a) := fun a _ => (SubL.refl loc0).put (by rfl) _ |>.put (by rfl) _
noncomputable def rowsL : List AV := [.ref 1, .ref 2, .ref 3, .ref 5, .ref 6, .ref 7, .ref 10, .ref 11, .ref 12, .ref 15, .ref 16]
theorem rowsL_at : ∀ (j : Nat) v, rowsL[j]? = some v → j < 11 ∧ v = rowR j := by
  intro j v h
  match j with
  | 0 => cases h; exact ⟨by decide, rfl⟩
  | 1 => cases h; exact ⟨by decide, rfl⟩
  | 2 => cases h; exact ⟨by decide, rfl⟩
  | 3 => cases h; exact ⟨by decide, rfl⟩
  | 4 => cases h; exact ⟨by decide, rfl⟩
  | 5 => cases h; exact ⟨by decide, rfl⟩
  | 6 => cases h; exact ⟨by decide, rfl⟩
  | 7 => cases h; exact ⟨by decide, rfl⟩
  | 8 => cases h; exact ⟨by decide, rfl⟩
  | 9 => cases h; exact ⟨by decide, rfl⟩
  | 10 => cases h; exact ⟨by decide, rfl⟩
  | n + 11 => cases h
theorem law_1a (ok : LwOk P) {Y' : List (Addr × Obj)} (c : Cs (P.W 0) L Y' fiL env A fr) {a : Nat} (ha : a < 11) {Q : Flow → Shared → Prop} (S : St (gm 0) P.h₀ L m Y' ρ ⟨led0, nxt0⟩ s.heap) (hl : LR (gm 0) env ρ (locA a) m)
    (hQ : ∀ m' h' tk', St (gm 0) P.h₀ L m' Y' ρ ⟨led0, nxt0⟩ h' → LR (gm 0) env ρ (locA a) m' → Q .next { s with heap := h', toks := tk' }) : WP (model P.prog P.w) A (exec (lwA1 nm) env) Q E s := by
  obtain ⟨a1, a2, a3, a4, a5⟩ := bl_A a ha
  obtain ⟨b1, b2, b3, b4, _⟩ := bl_0
  show WP _ _ (exec (lwA1 (P.W 0).G.nm) env) _ _ _
  exact for_tup (W := P.W 0) (ih := R1) (x := v_usage) (it := lw_ia) (b := lw_ba) (led1 := ledA) (n1 := 514) (i := 513) (xs := usA) (Lw.sound0 ok) c S hl (ev_ia _) (by kernel_rfl) (by kernel_rfl) b3 b1 a1 a2 kn_A.1 kn_A.2 (fun v hv => ⟨_, tA_all a ha v hv, (SubL.refl _).put a4 _⟩) hQ
theorem law_1b (ok : LwOk P) {Y' : List (Addr × Obj)} (c : Cs (P.W 0) L Y' fiL env A fr) {a : Nat} (ha : a < 11) {Q : Flow → Shared → Prop} (S : St (gm 0) P.h₀ L m Y' ρ ⟨led0, nxt0⟩ s.heap) (hl : LR (gm 0) env ρ (locA a) m)
    (hQ : ∀ m' h' tk', St (gm 0) P.h₀ L m' Y' ρ ⟨led0, nxt0⟩ h' → LR (gm 0) env ρ (locA a) m' → Q .next { s with heap := h', toks := tk' }) : WP (model P.prog P.w) A (exec (lwA2 nm) env) Q E s := by
  obtain ⟨a1, a2, a3, a4, a5⟩ := bl_A a ha
  obtain ⟨b1, b2, b3, b4, _⟩ := bl_0
  show WP _ _ (exec (lwA2 (P.W 0).G.nm) env) _ _ _
  exact for_tup (W := P.W 0) (ih := R1) (x := v_flags) (it := lw_ib) (b := lw_bb) (led1 := ledB) (n1 := 517) (i := 516) (xs := flB) (Lw.sound0 ok) c S hl (ev_ib _) (by kernel_rfl) (by kernel_rfl) b4 b1 a1 a3 kn_B.1 kn_B.2 (fun v hv => ⟨_, tB_all a ha v hv, (SubL.refl _).put a5 _⟩) hQ
theorem law_1c (ok : LwOk P) {Y' : List (Addr × Obj)} (c : Cs (P.W 0) L Y' fiL env A fr) {a : Nat} (ha : a < 11) {Q : Flow → Shared → Prop} (S : St (gm 0) P.h₀ L m Y' ρ ⟨led0, nxt0⟩ s.heap) (hl : LR (gm 0) env ρ (locA a) m)
    (hQ : ∀ m' h' tk', St (gm 0) P.h₀ L m' Y' ρ ⟨led0, nxt0⟩ h' → LR (gm 0) env ρ loc0 m' → Q .next { s with heap := h', toks := tk' }) : WP (model P.prog P.w) A (exec (toS nm lw_c) env) Q E s := by
  obtain ⟨b1, b2, b3, b4, _⟩ := bl_0
  exact stmt_ok (W := P.W 0) (ih := R1) (Lw.sound0 ok) c S hl (tC_all a ha) kn_D.2 b1 (loc_sub a ha) b2 hQ
/-- the first loop -/
theorem law_1 (ok : LwOk P) (b : LB env A fr L cA) {Q : Flow → Shared → Prop} (S : St (gm 0) P.h₀ L m Y ρ ⟨led0, nxt0⟩ s.heap) (hl : LR (gm 0) env ρ loc0 m)
    (hQ : ∀ m' h' tk', St (gm 0) P.h₀ L m' Y ρ ⟨led0, nxt0⟩ h' → LR (gm 0) env ρ loc0 m' → Q .next { s with heap := h', toks := tk' }) : WP (model P.prog P.w) A (exec (lw1 nm) env) Q E s := by
  show WP _ _ (exec (lw1 (P.W 0).G.nm) env) _ _ _
  refine for_enum (W := P.W 0) (ih := R1) (x := v_at) (y := v_row) (en := v_enumerate) (r := v_rows) (l0 := loc0) (led := led0) (n := nxt0) (i := 18) (k0 := 9) (xs := rowsL) (Lw.sound0 ok) (b.cs0 P 0 Y) S hl (by kernel_rfl) rfl (by kernel_rfl) (by kernel_rfl) (by kernel_rfl) (by kernel_rfl) (fun j v Y' m' s' Q' hj c' S' hl' k => ?_) hQ
  obtain ⟨ha, rfl⟩ := rowsL_at j v hj
  show WP _ _ (execs [lwA1 nm, lwA2 nm, toS nm lw_c] env) _ _ _
  refine consW ?_
  refine law_1a ok c' ha S' hl' fun m2 h2 tk2 S2 hl2 => ?_
  refine consW ?_
  refine law_1b ok (s := { s' with heap := h2, toks := tk2 }) c' ha S2 hl2 fun m3 h3 tk3 S3 hl3 => ?_
  refine consW ?_
  refine law_1c ok (s := { s' with heap := h3, toks := tk3 }) c' ha S3 hl3 fun m4 h4 tk4 S4 hl4 => ?_
  exact nilW (k m4 h4 tk4 S4 hl4)
/-- the second loop -/
theorem law_2 (ok : LwOk P) (b : LB env A fr L cA) {Q : Flow → Shared → Prop} (S : St (gm 0) P.h₀ L m Y ρ ⟨led0, nxt0⟩ s.heap) (hl : LR (gm 0) env ρ loc0 m)
    (hQ : ∀ m' h' tk', St (gm 0) P.h₀ L m' Y ρ ⟨led0, nxt0⟩ h' → LR (gm 0) env ρ loc0 m' → Q .next { s with heap := h', toks := tk' }) : WP (model P.prog P.w) A (exec (lw2 nm) env) Q E s := by
  have So := Lw.sound0 ok
  have c := b.cs0 P 0 Y
  obtain ⟨b1, b2, _⟩ := bl_0
  show WP _ _ (exec (lw2 (P.W 0).G.nm) env) _ _ _
  refine for_range (W := P.W 0) (ih := R1) (x := v_digits) (rg := v_range) (N := 21) (led := led0) (n := nxt0) (k0 := 10) So c S hl (by kernel_rfl) rfl (by kernel_rfl) (by kernel_rfl) (by decide) b1 b2 (fun j hj => ?_) hQ
  obtain ⟨k, hk⟩ := tD_all j hj
  exact ⟨_, _, hk, kn_D.1, (SubL.refl loc0).put (by rfl) _ |>.put (by rfl) _⟩
end
end Mine
end

section
set_option maxRecDepth 100000
set_option maxHeartbeats 0
namespace Mine
noncomputable def loc5 (c : Int) (a : Nat) (u s : List Nat) : Loc := aput (aput (aput (aput (aput loc0 v_cell (.int c)) v_at (.int a)) v_usage (.str u)) v_sign (.str s)) v_flags (.ref 514)
noncomputable def led5 (f0 f1 f2 : Bool) : Led := (514, .lst [.bool f0, .bool f1, .bool f2]) :: led0
noncomputable abbrev T5 (c : Int) (a : Nat) (u s : List Nat) (f0 f1 f2 : Bool) : Prop := outN (R1.ex fiL (loc5 c a u s) lw_t5 ⟨led5 f0 f1 f2, 515⟩) = some (loc5 c a u s, led5 f0 f1 f2)
theorem t5_0_0_0 (c : Int) (f0 f1 f2 : Bool) : T5 c 0 [100, 105, 115, 112, 108, 97, 121] [108, 101, 97, 100, 105, 110, 103] f0 f1 f2 := by
  kernel_rfl
theorem t5_0_0_1 (c : Int) (f0 f1 f2 : Bool) : T5 c 0 [100, 105, 115, 112, 108, 97, 121] [116, 114, 97, 105, 108, 105, 110, 103] f0 f1 f2 := by
  cases f0 with
  | false => cases f1 with
    | false => cases f2 with
      | false => kernel_rfl
      | true => kernel_rfl
    | true => kernel_rfl
  | true => kernel_rfl
theorem t5_0_0_2 (c : Int) (f0 f1 f2 : Bool) : T5 c 0 [100, 105, 115, 112, 108, 97, 121] [108, 101, 102, 116] f0 f1 f2 := by
  kernel_rfl
theorem t5_0_1_0 (c : Int) (f0 f1 f2 : Bool) : T5 c 0 [112, 97, 99, 107, 101, 100] [108, 101, 97, 100, 105, 110, 103] f0 f1 f2 := by
  kernel_rfl
theorem t5_0_1_1 (c : Int) (f0 f1 f2 : Bool) : T5 c 0 [112, 97, 99, 107, 101, 100] [116, 114, 97, 105, 108, 105, 110, 103] f0 f1 f2 := by
  cases f0 with
  | false => cases f1 with
    | false => cases f2 with
      | false => kernel_rfl
      | true => kernel_rfl
    | true => kernel_rfl
  | true => kernel_rfl
theorem t5_0_1_2 (c : Int) (f0 f1 f2 : Bool) : T5 c 0 [112, 97, 99, 107, 101, 100] [108, 101, 102, 116] f0 f1 f2 := by
  kernel_rfl
theorem t5_0_2_0 (c : Int) (f0 f1 f2 : Bool) : T5 c 0 [98, 105, 110, 97, 114, 121] [108, 101, 97, 100, 105, 110, 103] f0 f1 f2 := by
  kernel_rfl
theorem t5_0_2_1 (c : Int) (f0 f1 f2 : Bool) : T5 c 0 [98, 105, 110, 97, 114, 121] [116, 114, 97, 105, 108, 105, 110, 103] f0 f1 f2 := by
  cases f0 with
  | false => cases f1 with
    | false => cases f2 with
      | false => kernel_rfl
      | true => kernel_rfl
    | true => kernel_rfl
  | true => kernel_rfl
theorem t5_0_2_2 (c : Int) (f0 f1 f2 : Bool) : T5 c 0 [98, 105, 110, 97, 114, 121] [108, 101, 102, 116] f0 f1 f2 := by
  kernel_rfl
theorem t5_0_3 (c : Int) (s : List Nat) (f0 f1 f2 : Bool) : T5 c 0 [68, 105, 115, 112, 108, 97, 121] s f0 f1 f2 := by kernel_rfl
theorem t5_0_4 (c : Int) (s : List Nat) (f0 f1 f2 : Bool) : T5 c 0 [] s f0 f1 f2 := by kernel_rfl
theorem t5_1_0_0 (c : Int) (f0 f1 f2 : Bool) : T5 c 1 [100, 105, 115, 112, 108, 97, 121] [108, 101, 97, 100, 105, 110, 103] f0 f1 f2 := by
  cases f0 with
  | false => cases f1 with
    | false => cases f2 with
      | false => kernel_rfl
      | true => kernel_rfl
    | true => kernel_rfl
  | true => cases f1 with
    | false => cases f2 with
      | false => kernel_rfl
      | true => kernel_rfl
    | true => kernel_rfl
theorem t5_1_0_1 (c : Int) (f0 f1 f2 : Bool) : T5 c 1 [100, 105, 115, 112, 108, 97, 121] [116, 114, 97, 105, 108, 105, 110, 103] f0 f1 f2 := by
  cases f0 with
  | false => cases f1 with
    | false => cases f2 with
      | false => kernel_rfl
      | true => kernel_rfl
    | true => kernel_rfl
  | true => cases f1 with
    | false => cases f2 with
      | false => kernel_rfl
      | true => kernel_rfl
    | true => kernel_rfl
theorem t5_1_0_2 (c : Int) (f0 f1 f2 : Bool) : T5 c 1 [100, 105, 115, 112, 108, 97, 121] [108, 101, 102, 116] f0 f1 f2 := by
  kernel_rfl
theorem t5_1_1_0 (c : Int) (f0 f1 f2 : Bool) : T5 c 1 [112, 97, 99, 107, 101, 100] [108, 101, 97, 100, 105, 110, 103] f0 f1 f2 := by
  kernel_rfl
theorem t5_1_1_1 (c : Int) (f0 f1 f2 : Bool) : T5 c 1 [112, 97, 99, 107, 101, 100] [116, 114, 97, 105, 108, 105, 110, 103] f0 f1 f2 := by
  cases f0 with
  | false => cases f1 with
    | false => cases f2 with
      | false => kernel_rfl
      | true => kernel_rfl
    | true => kernel_rfl
  | true => kernel_rfl
theorem t5_1_1_2 (c : Int) (f0 f1 f2 : Bool) : T5 c 1 [112, 97, 99, 107, 101, 100] [108, 101, 102, 116] f0 f1 f2 := by
  kernel_rfl
theorem t5_1_2_0 (c : Int) (f0 f1 f2 : Bool) : T5 c 1 [98, 105, 110, 97, 114, 121] [108, 101, 97, 100, 105, 110, 103] f0 f1 f2 := by
  kernel_rfl
theorem t5_1_2_1 (c : Int) (f0 f1 f2 : Bool) : T5 c 1 [98, 105, 110, 97, 114, 121] [116, 114, 97, 105, 108, 105, 110, 103] f0 f1 f2 := by
  cases f0 with
  | false => cases f1 with
    | false => cases f2 with
      | false => kernel_rfl
      | true => kernel_rfl
    | true => kernel_rfl
  | true => kernel_rfl
theorem t5_1_2_2 (c : Int) (f0 f1 f2 : Bool) : T5 c 1 [98, 105, 110, 97, 114, 121] [108, 101, 102, 116] f0 f1 f2 := by
  kernel_rfl
theorem t5_1_3 (c : Int) (s : List Nat) (f0 f1 f2 : Bool) : T5 c 1 [68, 105, 115, 112, 108, 97, 121] s f0 f1 f2 := by kernel_rfl
theorem t5_1_4 (c : Int) (s : List Nat) (f0 f1 f2 : Bool) : T5 c 1 [] s f0 f1 f2 := by kernel_rfl
theorem t5_2_0_0 (c : Int) (f0 f1 f2 : Bool) : T5 c 2 [100, 105, 115, 112, 108, 97, 121] [108, 101, 97, 100, 105, 110, 103] f0 f1 f2 := by
  kernel_rfl
theorem t5_2_0_1 (c : Int) (f0 f1 f2 : Bool) : T5 c 2 [100, 105, 115, 112, 108, 97, 121] [116, 114, 97, 105, 108, 105, 110, 103] f0 f1 f2 := by
  cases f0 with
  | false => cases f1 with
    | false => cases f2 with
      | false => kernel_rfl
      | true => kernel_rfl
    | true => cases f2 with
      | false => kernel_rfl
      | true => kernel_rfl
  | true => kernel_rfl
theorem t5_2_0_2 (c : Int) (f0 f1 f2 : Bool) : T5 c 2 [100, 105, 115, 112, 108, 97, 121] [108, 101, 102, 116] f0 f1 f2 := by
  kernel_rfl
theorem t5_2_1_0 (c : Int) (f0 f1 f2 : Bool) : T5 c 2 [112, 97, 99, 107, 101, 100] [108, 101, 97, 100, 105, 110, 103] f0 f1 f2 := by
  kernel_rfl
theorem t5_2_1_1 (c : Int) (f0 f1 f2 : Bool) : T5 c 2 [112, 97, 99, 107, 101, 100] [116, 114, 97, 105, 108, 105, 110, 103] f0 f1 f2 := by
  kernel_rfl
theorem t5_2_1_2 (c : Int) (f0 f1 f2 : Bool) : T5 c 2 [112, 97, 99, 107, 101, 100] [108, 101, 102, 116] f0 f1 f2 := by
  kernel_rfl
theorem t5_2_2_0 (c : Int) (f0 f1 f2 : Bool) : T5 c 2 [98, 105, 110, 97, 114, 121] [108, 101, 97, 100, 105, 110, 103] f0 f1 f2 := by
  kernel_rfl
theorem t5_2_2_1 (c : Int) (f0 f1 f2 : Bool) : T5 c 2 [98, 105, 110, 97, 114, 121] [116, 114, 97, 105, 108, 105, 110, 103] f0 f1 f2 := by
  kernel_rfl
theorem t5_2_2_2 (c : Int) (f0 f1 f2 : Bool) : T5 c 2 [98, 105, 110, 97, 114, 121] [108, 101, 102, 116] f0 f1 f2 := by
  kernel_rfl
theorem t5_2_3 (c : Int) (s : List Nat) (f0 f1 f2 : Bool) : T5 c 2 [68, 105, 115, 112, 108, 97, 121] s f0 f1 f2 := by kernel_rfl
theorem t5_2_4 (c : Int) (s : List Nat) (f0 f1 f2 : Bool) : T5 c 2 [] s f0 f1 f2 := by kernel_rfl
theorem t5_3_0_0 (c : Int) (f0 f1 f2 : Bool) : T5 c 3 [100, 105, 115, 112, 108, 97, 121] [108, 101, 97, 100, 105, 110, 103] f0 f1 f2 := by
  kernel_rfl
theorem t5_3_0_1 (c : Int) (f0 f1 f2 : Bool) : T5 c 3 [100, 105, 115, 112, 108, 97, 121] [116, 114, 97, 105, 108, 105, 110, 103] f0 f1 f2 := by
  cases f0 with
  | false => cases f1 with
    | false => cases f2 with
      | false => kernel_rfl
      | true => kernel_rfl
    | true => cases f2 with
      | false => kernel_rfl
      | true => kernel_rfl
  | true => kernel_rfl
theorem t5_3_0_2 (c : Int) (f0 f1 f2 : Bool) : T5 c 3 [100, 105, 115, 112, 108, 97, 121] [108, 101, 102, 116] f0 f1 f2 := by
  kernel_rfl
theorem t5_3_1_0 (c : Int) (f0 f1 f2 : Bool) : T5 c 3 [112, 97, 99, 107, 101, 100] [108, 101, 97, 100, 105, 110, 103] f0 f1 f2 := by
  kernel_rfl
theorem t5_3_1_1 (c : Int) (f0 f1 f2 : Bool) : T5 c 3 [112, 97, 99, 107, 101, 100] [116, 114, 97, 105, 108, 105, 110, 103] f0 f1 f2 := by
  kernel_rfl
theorem t5_3_1_2 (c : Int) (f0 f1 f2 : Bool) : T5 c 3 [112, 97, 99, 107, 101, 100] [108, 101, 102, 116] f0 f1 f2 := by
  kernel_rfl
theorem t5_3_2_0 (c : Int) (f0 f1 f2 : Bool) : T5 c 3 [98, 105, 110, 97, 114, 121] [108, 101, 97, 100, 105, 110, 103] f0 f1 f2 := by
  kernel_rfl
theorem t5_3_2_1 (c : Int) (f0 f1 f2 : Bool) : T5 c 3 [98, 105, 110, 97, 114, 121] [116, 114, 97, 105, 108, 105, 110, 103] f0 f1 f2 := by
  kernel_rfl
theorem t5_3_2_2 (c : Int) (f0 f1 f2 : Bool) : T5 c 3 [98, 105, 110, 97, 114, 121] [108, 101, 102, 116] f0 f1 f2 := by
  kernel_rfl
theorem t5_3_3 (c : Int) (s : List Nat) (f0 f1 f2 : Bool) : T5 c 3 [68, 105, 115, 112, 108, 97, 121] s f0 f1 f2 := by kernel_rfl
theorem t5_3_4 (c : Int) (s : List Nat) (f0 f1 f2 : Bool) : T5 c 3 [] s f0 f1 f2 := by kernel_rfl
theorem t5_4_0_0 (c : Int) (f0 f1 f2 : Bool) : T5 c 4 [100, 105, 115, 112, 108, 97, 121] [108, 101, 97, 100, 105, 110, 103] f0 f1 f2 := by
  kernel_rfl
theorem t5_4_0_1 (c : Int) (f0 f1 f2 : Bool) : T5 c 4 [100, 105, 115, 112, 108, 97, 121] [116, 114, 97, 105, 108, 105, 110, 103] f0 f1 f2 := by
  cases f0 with
  | false => cases f1 with
    | false => cases f2 with
      | false => kernel_rfl
      | true => kernel_rfl
    | true => kernel_rfl
  | true => kernel_rfl
theorem t5_4_0_2 (c : Int) (f0 f1 f2 : Bool) : T5 c 4 [100, 105, 115, 112, 108, 97, 121] [108, 101, 102, 116] f0 f1 f2 := by
  kernel_rfl
theorem t5_4_1_0 (c : Int) (f0 f1 f2 : Bool) : T5 c 4 [112, 97, 99, 107, 101, 100] [108, 101, 97, 100, 105, 110, 103] f0 f1 f2 := by
  kernel_rfl
theorem t5_4_1_1 (c : Int) (f0 f1 f2 : Bool) : T5 c 4 [112, 97, 99, 107, 101, 100] [116, 114, 97, 105, 108, 105, 110, 103] f0 f1 f2 := by
  kernel_rfl
theorem t5_4_1_2 (c : Int) (f0 f1 f2 : Bool) : T5 c 4 [112, 97, 99, 107, 101, 100] [108, 101, 102, 116] f0 f1 f2 := by
  kernel_rfl
theorem t5_4_2_0 (c : Int) (f0 f1 f2 : Bool) : T5 c 4 [98, 105, 110, 97, 114, 121] [108, 101, 97, 100, 105, 110, 103] f0 f1 f2 := by
  kernel_rfl
theorem t5_4_2_1 (c : Int) (f0 f1 f2 : Bool) : T5 c 4 [98, 105, 110, 97, 114, 121] [116, 114, 97, 105, 108, 105, 110, 103] f0 f1 f2 := by
  kernel_rfl
theorem t5_4_2_2 (c : Int) (f0 f1 f2 : Bool) : T5 c 4 [98, 105, 110, 97, 114, 121] [108, 101, 102, 116] f0 f1 f2 := by
  kernel_rfl
theorem t5_4_3 (c : Int) (s : List Nat) (f0 f1 f2 : Bool) : T5 c 4 [68, 105, 115, 112, 108, 97, 121] s f0 f1 f2 := by kernel_rfl
theorem t5_4_4 (c : Int) (s : List Nat) (f0 f1 f2 : Bool) : T5 c 4 [] s f0 f1 f2 := by kernel_rfl
theorem t5_5_0_0 (c : Int) (f0 f1 f2 : Bool) : T5 c 5 [100, 105, 115, 112, 108, 97, 121] [108, 101, 97, 100, 105, 110, 103] f0 f1 f2 := by
  kernel_rfl
theorem t5_5_0_1 (c : Int) (f0 f1 f2 : Bool) : T5 c 5 [100, 105, 115, 112, 108, 97, 121] [116, 114, 97, 105, 108, 105, 110, 103] f0 f1 f2 := by
  cases f0 with
  | false => cases f1 with
    | false => cases f2 with
      | false => kernel_rfl
      | true => kernel_rfl
    | true => kernel_rfl
  | true => kernel_rfl
theorem t5_5_0_2 (c : Int) (f0 f1 f2 : Bool) : T5 c 5 [100, 105, 115, 112, 108, 97, 121] [108, 101, 102, 116] f0 f1 f2 := by
  kernel_rfl
theorem t5_5_1_0 (c : Int) (f0 f1 f2 : Bool) : T5 c 5 [112, 97, 99, 107, 101, 100] [108, 101, 97, 100, 105, 110, 103] f0 f1 f2 := by
  kernel_rfl
theorem t5_5_1_1 (c : Int) (f0 f1 f2 : Bool) : T5 c 5 [112, 97, 99, 107, 101, 100] [116, 114, 97, 105, 108, 105, 110, 103] f0 f1 f2 := by
  kernel_rfl
theorem t5_5_1_2 (c : Int) (f0 f1 f2 : Bool) : T5 c 5 [112, 97, 99, 107, 101, 100] [108, 101, 102, 116] f0 f1 f2 := by
  kernel_rfl
theorem t5_5_2_0 (c : Int) (f0 f1 f2 : Bool) : T5 c 5 [98, 105, 110, 97, 114, 121] [108, 101, 97, 100, 105, 110, 103] f0 f1 f2 := by
  kernel_rfl
theorem t5_5_2_1 (c : Int) (f0 f1 f2 : Bool) : T5 c 5 [98, 105, 110, 97, 114, 121] [116, 114, 97, 105, 108, 105, 110, 103] f0 f1 f2 := by
  kernel_rfl
theorem t5_5_2_2 (c : Int) (f0 f1 f2 : Bool) : T5 c 5 [98, 105, 110, 97, 114, 121] [108, 101, 102, 116] f0 f1 f2 := by
  kernel_rfl
theorem t5_5_3 (c : Int) (s : List Nat) (f0 f1 f2 : Bool) : T5 c 5 [68, 105, 115, 112, 108, 97, 121] s f0 f1 f2 := by kernel_rfl
theorem t5_5_4 (c : Int) (s : List Nat) (f0 f1 f2 : Bool) : T5 c 5 [] s f0 f1 f2 := by kernel_rfl
theorem t5_6_0_0 (c : Int) (f0 f1 f2 : Bool) : T5 c 6 [100, 105, 115, 112, 108, 97, 121] [108, 101, 97, 100, 105, 110, 103] f0 f1 f2 := by
  kernel_rfl
theorem t5_6_0_1 (c : Int) (f0 f1 f2 : Bool) : T5 c 6 [100, 105, 115, 112, 108, 97, 121] [116, 114, 97, 105, 108, 105, 110, 103] f0 f1 f2 := by
  cases f0 with
  | false => cases f1 with
    | false => cases f2 with
      | false => kernel_rfl
      | true => kernel_rfl
    | true => kernel_rfl
  | true => kernel_rfl
theorem t5_6_0_2 (c : Int) (f0 f1 f2 : Bool) : T5 c 6 [100, 105, 115, 112, 108, 97, 121] [108, 101, 102, 116] f0 f1 f2 := by
  kernel_rfl
theorem t5_6_1_0 (c : Int) (f0 f1 f2 : Bool) : T5 c 6 [112, 97, 99, 107, 101, 100] [108, 101, 97, 100, 105, 110, 103] f0 f1 f2 := by
  kernel_rfl
theorem t5_6_1_1 (c : Int) (f0 f1 f2 : Bool) : T5 c 6 [112, 97, 99, 107, 101, 100] [116, 114, 97, 105, 108, 105, 110, 103] f0 f1 f2 := by
  kernel_rfl
theorem t5_6_1_2 (c : Int) (f0 f1 f2 : Bool) : T5 c 6 [112, 97, 99, 107, 101, 100] [108, 101, 102, 116] f0 f1 f2 := by
  kernel_rfl
theorem t5_6_2_0 (c : Int) (f0 f1 f2 : Bool) : T5 c 6 [98, 105, 110, 97, 114, 121] [108, 101, 97, 100, 105, 110, 103] f0 f1 f2 := by
  kernel_rfl
theorem t5_6_2_1 (c : Int) (f0 f1 f2 : Bool) : T5 c 6 [98, 105, 110, 97, 114, 121] [116, 114, 97, 105, 108, 105, 110, 103] f0 f1 f2 := by
  kernel_rfl
theorem t5_6_2_2 (c : Int) (f0 f1 f2 : Bool) : T5 c 6 [98, 105, 110, 97, 114, 121] [108, 101, 102, 116] f0 f1 f2 := by
  kernel_rfl
theorem t5_6_3 (c : Int) (s : List Nat) (f0 f1 f2 : Bool) : T5 c 6 [68, 105, 115, 112, 108, 97, 121] s f0 f1 f2 := by kernel_rfl
theorem t5_6_4 (c : Int) (s : List Nat) (f0 f1 f2 : Bool) : T5 c 6 [] s f0 f1 f2 := by kernel_rfl
theorem t5_7_0_0 (c : Int) (f0 f1 f2 : Bool) : T5 c 7 [100, 105, 115, 112, 108, 97, 121] [108, 101, 97, 100, 105, 110, 103] f0 f1 f2 := by
  cases f0 with
  | false => cases f1 with
    | false => cases f2 with
      | false => kernel_rfl
      | true => kernel_rfl
    | true => kernel_rfl
  | true => cases f1 with
    | false => cases f2 with
      | false => kernel_rfl
      | true => kernel_rfl
    | true => kernel_rfl
theorem t5_7_0_1 (c : Int) (f0 f1 f2 : Bool) : T5 c 7 [100, 105, 115, 112, 108, 97, 121] [116, 114, 97, 105, 108, 105, 110, 103] f0 f1 f2 := by
  cases f0 with
  | false => cases f1 with
    | false => cases f2 with
      | false => kernel_rfl
      | true => kernel_rfl
    | true => kernel_rfl
  | true => cases f1 with
    | false => cases f2 with
      | false => kernel_rfl
      | true => kernel_rfl
    | true => kernel_rfl
theorem t5_7_0_2 (c : Int) (f0 f1 f2 : Bool) : T5 c 7 [100, 105, 115, 112, 108, 97, 121] [108, 101, 102, 116] f0 f1 f2 := by
  kernel_rfl
theorem t5_7_1_0 (c : Int) (f0 f1 f2 : Bool) : T5 c 7 [112, 97, 99, 107, 101, 100] [108, 101, 97, 100, 105, 110, 103] f0 f1 f2 := by
  kernel_rfl
theorem t5_7_1_1 (c : Int) (f0 f1 f2 : Bool) : T5 c 7 [112, 97, 99, 107, 101, 100] [116, 114, 97, 105, 108, 105, 110, 103] f0 f1 f2 := by
  cases f0 with
  | false => cases f1 with
    | false => cases f2 with
      | false => kernel_rfl
      | true => kernel_rfl
    | true => kernel_rfl
  | true => kernel_rfl
theorem t5_7_1_2 (c : Int) (f0 f1 f2 : Bool) : T5 c 7 [112, 97, 99, 107, 101, 100] [108, 101, 102, 116] f0 f1 f2 := by
  kernel_rfl
theorem t5_7_2_0 (c : Int) (f0 f1 f2 : Bool) : T5 c 7 [98, 105, 110, 97, 114, 121] [108, 101, 97, 100, 105, 110, 103] f0 f1 f2 := by
  kernel_rfl
theorem t5_7_2_1 (c : Int) (f0 f1 f2 : Bool) : T5 c 7 [98, 105, 110, 97, 114, 121] [116, 114, 97, 105, 108, 105, 110, 103] f0 f1 f2 := by
  cases f0 with
  | false => cases f1 with
    | false => cases f2 with
      | false => kernel_rfl
      | true => kernel_rfl
    | true => kernel_rfl
  | true => kernel_rfl
theorem t5_7_2_2 (c : Int) (f0 f1 f2 : Bool) : T5 c 7 [98, 105, 110, 97, 114, 121] [108, 101, 102, 116] f0 f1 f2 := by
  kernel_rfl
theorem t5_7_3 (c : Int) (s : List Nat) (f0 f1 f2 : Bool) : T5 c 7 [68, 105, 115, 112, 108, 97, 121] s f0 f1 f2 := by kernel_rfl
theorem t5_7_4 (c : Int) (s : List Nat) (f0 f1 f2 : Bool) : T5 c 7 [] s f0 f1 f2 := by kernel_rfl
theorem t5_8_0_0 (c : Int) (f0 f1 f2 : Bool) : T5 c 8 [100, 105, 115, 112, 108, 97, 121] [108, 101, 97, 100, 105, 110, 103] f0 f1 f2 := by
  kernel_rfl
theorem t5_8_0_1 (c : Int) (f0 f1 f2 : Bool) : T5 c 8 [100, 105, 115, 112, 108, 97, 121] [116, 114, 97, 105, 108, 105, 110, 103] f0 f1 f2 := by
  cases f0 with
  | false => cases f1 with
    | false => cases f2 with
      | false => kernel_rfl
      | true => kernel_rfl
    | true => kernel_rfl
  | true => kernel_rfl
theorem t5_8_0_2 (c : Int) (f0 f1 f2 : Bool) : T5 c 8 [100, 105, 115, 112, 108, 97, 121] [108, 101, 102, 116] f0 f1 f2 := by
  kernel_rfl
theorem t5_8_1_0 (c : Int) (f0 f1 f2 : Bool) : T5 c 8 [112, 97, 99, 107, 101, 100] [108, 101, 97, 100, 105, 110, 103] f0 f1 f2 := by
  kernel_rfl
theorem t5_8_1_1 (c : Int) (f0 f1 f2 : Bool) : T5 c 8 [112, 97, 99, 107, 101, 100] [116, 114, 97, 105, 108, 105, 110, 103] f0 f1 f2 := by
  cases f0 with
  | false => cases f1 with
    | false => cases f2 with
      | false => kernel_rfl
      | true => kernel_rfl
    | true => kernel_rfl
  | true => kernel_rfl
theorem t5_8_1_2 (c : Int) (f0 f1 f2 : Bool) : T5 c 8 [112, 97, 99, 107, 101, 100] [108, 101, 102, 116] f0 f1 f2 := by
  kernel_rfl
theorem t5_8_2_0 (c : Int) (f0 f1 f2 : Bool) : T5 c 8 [98, 105, 110, 97, 114, 121] [108, 101, 97, 100, 105, 110, 103] f0 f1 f2 := by
  kernel_rfl
theorem t5_8_2_1 (c : Int) (f0 f1 f2 : Bool) : T5 c 8 [98, 105, 110, 97, 114, 121] [116, 114, 97, 105, 108, 105, 110, 103] f0 f1 f2 := by
  cases f0 with
  | false => cases f1 with
    | false => cases f2 with
      | false => kernel_rfl
      | true => kernel_rfl
    | true => kernel_rfl
  | true => kernel_rfl
theorem t5_8_2_2 (c : Int) (f0 f1 f2 : Bool) : T5 c 8 [98, 105, 110, 97, 114, 121] [108, 101, 102, 116] f0 f1 f2 := by
  kernel_rfl
theorem t5_8_3 (c : Int) (s : List Nat) (f0 f1 f2 : Bool) : T5 c 8 [68, 105, 115, 112, 108, 97, 121] s f0 f1 f2 := by kernel_rfl
theorem t5_8_4 (c : Int) (s : List Nat) (f0 f1 f2 : Bool) : T5 c 8 [] s f0 f1 f2 := by kernel_rfl
theorem t5_9_0_0 (c : Int) (f0 f1 f2 : Bool) : T5 c 9 [100, 105, 115, 112, 108, 97, 121] [108, 101, 97, 100, 105, 110, 103] f0 f1 f2 := by
  cases f0 with
  | false => cases f1 with
    | false => cases f2 with
      | false => kernel_rfl
      | true => kernel_rfl
    | true => kernel_rfl
  | true => cases f1 with
    | false => cases f2 with
      | false => kernel_rfl
      | true => kernel_rfl
    | true => kernel_rfl
theorem t5_9_0_1 (c : Int) (f0 f1 f2 : Bool) : T5 c 9 [100, 105, 115, 112, 108, 97, 121] [116, 114, 97, 105, 108, 105, 110, 103] f0 f1 f2 := by
  cases f0 with
  | false => cases f1 with
    | false => cases f2 with
      | false => kernel_rfl
      | true => kernel_rfl
    | true => kernel_rfl
  | true => cases f1 with
    | false => cases f2 with
      | false => kernel_rfl
      | true => kernel_rfl
    | true => kernel_rfl
theorem t5_9_0_2 (c : Int) (f0 f1 f2 : Bool) : T5 c 9 [100, 105, 115, 112, 108, 97, 121] [108, 101, 102, 116] f0 f1 f2 := by
  kernel_rfl
theorem t5_9_1_0 (c : Int) (f0 f1 f2 : Bool) : T5 c 9 [112, 97, 99, 107, 101, 100] [108, 101, 97, 100, 105, 110, 103] f0 f1 f2 := by
  kernel_rfl
theorem t5_9_1_1 (c : Int) (f0 f1 f2 : Bool) : T5 c 9 [112, 97, 99, 107, 101, 100] [116, 114, 97, 105, 108, 105, 110, 103] f0 f1 f2 := by
  cases f0 with
  | false => cases f1 with
    | false => cases f2 with
      | false => kernel_rfl
      | true => kernel_rfl
    | true => kernel_rfl
  | true => kernel_rfl
theorem t5_9_1_2 (c : Int) (f0 f1 f2 : Bool) : T5 c 9 [112, 97, 99, 107, 101, 100] [108, 101, 102, 116] f0 f1 f2 := by
  kernel_rfl
theorem t5_9_2_0 (c : Int) (f0 f1 f2 : Bool) : T5 c 9 [98, 105, 110, 97, 114, 121] [108, 101, 97, 100, 105, 110, 103] f0 f1 f2 := by
  kernel_rfl
theorem t5_9_2_1 (c : Int) (f0 f1 f2 : Bool) : T5 c 9 [98, 105, 110, 97, 114, 121] [116, 114, 97, 105, 108, 105, 110, 103] f0 f1 f2 := by
  cases f0 with
  | false => cases f1 with
    | false => cases f2 with
      | false => kernel_rfl
      | true => kernel_rfl
    | true => kernel_rfl
  | true => kernel_rfl
theorem t5_9_2_2 (c : Int) (f0 f1 f2 : Bool) : T5 c 9 [98, 105, 110, 97, 114, 121] [108, 101, 102, 116] f0 f1 f2 := by
  kernel_rfl
theorem t5_9_3 (c : Int) (s : List Nat) (f0 f1 f2 : Bool) : T5 c 9 [68, 105, 115, 112, 108, 97, 121] s f0 f1 f2 := by kernel_rfl
theorem t5_9_4 (c : Int) (s : List Nat) (f0 f1 f2 : Bool) : T5 c 9 [] s f0 f1 f2 := by kernel_rfl
theorem t5_10_0_0 (c : Int) (f0 f1 f2 : Bool) : T5 c 10 [100, 105, 115, 112, 108, 97, 121] [108, 101, 97, 100, 105, 110, 103] f0 f1 f2 := by
  cases f0 with
  | false => cases f1 with
    | false => cases f2 with
      | false => kernel_rfl
      | true => kernel_rfl
    | true => kernel_rfl
  | true => cases f1 with
    | false => cases f2 with
      | false => kernel_rfl
      | true => kernel_rfl
    | true => kernel_rfl
theorem t5_10_0_1 (c : Int) (f0 f1 f2 : Bool) : T5 c 10 [100, 105, 115, 112, 108, 97, 121] [116, 114, 97, 105, 108, 105, 110, 103] f0 f1 f2 := by
  cases f0 with
  | false => cases f1 with
    | false => cases f2 with
      | false => kernel_rfl
      | true => kernel_rfl
    | true => kernel_rfl
  | true => cases f1 with
    | false => cases f2 with
      | false => kernel_rfl
      | true => kernel_rfl
    | true => kernel_rfl
theorem t5_10_0_2 (c : Int) (f0 f1 f2 : Bool) : T5 c 10 [100, 105, 115, 112, 108, 97, 121] [108, 101, 102, 116] f0 f1 f2 := by
  kernel_rfl
theorem t5_10_1_0 (c : Int) (f0 f1 f2 : Bool) : T5 c 10 [112, 97, 99, 107, 101, 100] [108, 101, 97, 100, 105, 110, 103] f0 f1 f2 := by
  kernel_rfl
theorem t5_10_1_1 (c : Int) (f0 f1 f2 : Bool) : T5 c 10 [112, 97, 99, 107, 101, 100] [116, 114, 97, 105, 108, 105, 110, 103] f0 f1 f2 := by
  cases f0 with
  | false => cases f1 with
    | false => cases f2 with
      | false => kernel_rfl
      | true => kernel_rfl
    | true => kernel_rfl
  | true => kernel_rfl
theorem t5_10_1_2 (c : Int) (f0 f1 f2 : Bool) : T5 c 10 [112, 97, 99, 107, 101, 100] [108, 101, 102, 116] f0 f1 f2 := by
  kernel_rfl
theorem t5_10_2_0 (c : Int) (f0 f1 f2 : Bool) : T5 c 10 [98, 105, 110, 97, 114, 121] [108, 101, 97, 100, 105, 110, 103] f0 f1 f2 := by
  kernel_rfl
theorem t5_10_2_1 (c : Int) (f0 f1 f2 : Bool) : T5 c 10 [98, 105, 110, 97, 114, 121] [116, 114, 97, 105, 108, 105, 110, 103] f0 f1 f2 := by
  cases f0 with
  | false => cases f1 with
    | false => cases f2 with
      | false => kernel_rfl
      | true => kernel_rfl
    | true => kernel_rfl
  | true => kernel_rfl
theorem t5_10_2_2 (c : Int) (f0 f1 f2 : Bool) : T5 c 10 [98, 105, 110, 97, 114, 121] [108, 101, 102, 116] f0 f1 f2 := by
  kernel_rfl
theorem t5_10_3 (c : Int) (s : List Nat) (f0 f1 f2 : Bool) : T5 c 10 [68, 105, 115, 112, 108, 97, 121] s f0 f1 f2 := by kernel_rfl
theorem t5_10_4 (c : Int) (s : List Nat) (f0 f1 f2 : Bool) : T5 c 10 [] s f0 f1 f2 := by kernel_rfl
noncomputable def usC : List (List Nat) := [[100, 105, 115, 112, 108, 97, 121], [112, 97, 99, 107, 101, 100], [98, 105, 110, 97, 114, 121], [68, 105, 115, 112, 108, 97, 121], []]
noncomputable def sgC : List (List Nat) := [[108, 101, 97, 100, 105, 110, 103], [116, 114, 97, 105, 108, 105, 110, 103], [108, 101, 102, 116]]
theorem t5_all (c : Int) (f0 f1 f2 : Bool) : ∀ a, a < 11 → ∀ u ∈ usC, ∀ s ∈ sgC, T5 c a u s f0 f1 f2 := by
  intro a ha
  match a, ha with
  | 0, _ => exact List.forall_mem_cons.mpr ⟨List.forall_mem_cons.mpr ⟨t5_0_0_0 c f0 f1 f2, List.forall_mem_cons.mpr ⟨t5_0_0_1 c f0 f1 f2, List.forall_mem_cons.mpr ⟨t5_0_0_2 c f0 f1 f2, fun _ h => nomatch h⟩⟩⟩, List.forall_mem_cons.mpr ⟨List.forall_mem_cons.mpr ⟨t5_0_1_0 c f0 f1 f2, List.forall_mem_cons.mpr ⟨t5_0_1_1 c f0 f1 f2, List.forall_mem_cons.mpr ⟨t5_0_1_2 c f0 f1 f2, fun _ h => nomatch h⟩⟩⟩, List.forall_mem_cons.mpr ⟨List.forall_mem_cons.mpr ⟨t5_0_2_0 c f0 f1 f2, List.forall_mem_cons.mpr ⟨t5_0_2_1 c f0 f1 f2, List.forall_mem_cons.mpr ⟨t5_0_2_2 c f0 f1 f2, fun _ h => nomatch h⟩⟩⟩, List.forall_mem_cons.mpr ⟨fun s _ => t5_0_3 c s f0 f1 f2, List.forall_mem_cons.mpr ⟨fun s _ => t5_0_4 c s f0 f1 f2, fun _ h => nomatch h⟩⟩⟩⟩⟩
  | 1, _ => exact List.forall_mem_cons.mpr ⟨List.forall_mem_cons.mpr ⟨t5_1_0_0 c f0 f1 f2, List.forall_mem_cons.mpr ⟨t5_1_0_1 c f0 f1 f2, List.forall_mem_cons.mpr ⟨t5_1_0_2 c f0 f1 f2, fun _ h => nomatch h⟩⟩⟩, List.forall_mem_cons.mpr ⟨List.forall_mem_cons.mpr ⟨t5_1_1_0 c f0 f1 f2, List.forall_mem_cons.mpr ⟨t5_1_1_1 c f0 f1 f2, List.forall_mem_cons.mpr ⟨t5_1_1_2 c f0 f1 f2, fun _ h => nomatch h⟩⟩⟩, List.forall_mem_cons.mpr ⟨List.forall_mem_cons.mpr ⟨t5_1_2_0 c f0 f1 f2, List.forall_mem_cons.mpr ⟨t5_1_2_1 c f0 f1 f2, List.forall_mem_cons.mpr ⟨t5_1_2_2 c f0 f1 f2, fun _ h => nomatch h⟩⟩⟩, List.forall_mem_cons.mpr ⟨fun s _ => t5_1_3 c s f0 f1 f2, List.forall_mem_cons.mpr ⟨fun s _ => t5_1_4 c s f0 f1 f2, fun _ h => nomatch h⟩⟩⟩⟩⟩
  | 2, _ => exact List.forall_mem_cons.mpr ⟨List.forall_mem_cons.mpr ⟨t5_2_0_0 c f0 f1 f2, List.forall_mem_cons.mpr ⟨t5_2_0_1 c f0 f1 f2, List.forall_mem_cons.mpr ⟨t5_2_0_2 c f0 f1 f2, fun _ h => nomatch h⟩⟩⟩, List.forall_mem_cons.mpr ⟨List.forall_mem_cons.mpr ⟨t5_2_1_0 c f0 f1 f2, List.forall_mem_cons.mpr ⟨t5_2_1_1 c f0 f1 f2, List.forall_mem_cons.mpr ⟨t5_2_1_2 c f0 f1 f2, fun _ h => nomatch h⟩⟩⟩, List.forall_mem_cons.mpr ⟨List.forall_mem_cons.mpr ⟨t5_2_2_0 c f0 f1 f2, List.forall_mem_cons.mpr ⟨t5_2_2_1 c f0 f1 f2, List.forall_mem_cons.mpr ⟨t5_2_2_2 c f0 f1 f2, fun _ h => nomatch h⟩⟩⟩, List.forall_mem_cons.mpr ⟨fun s _ => t5_2_3 c s f0 f1 f2, List.forall_mem_cons.mpr ⟨fun s _ => t5_2_4 c s f0 f1 f2, fun _ h => nomatch h⟩⟩⟩⟩⟩
  | 3, _ => exact List.forall_mem_cons.mpr ⟨List.forall_mem_cons.mpr ⟨t5_3_0_0 c f0 f1 f2, List.forall_mem_cons.mpr ⟨t5_3_0_1 c f0 f1 f2, List.forall_mem_cons.mpr ⟨t5_3_0_2 c f0 f1 f2, fun _ h => nomatch h⟩⟩⟩, List.forall_mem_cons.mpr ⟨List.forall_mem_cons.mpr ⟨t5_3_1_0 c f0 f1 f2, List.forall_mem_cons.mpr ⟨t5_3_1_1 c f0 f1 f2, List.forall_mem_cons.mpr ⟨t5_3_1_2 c f0 f1 f2, fun _ h => nomatch h⟩⟩⟩, List.forall_mem_cons.mpr ⟨List.forall_mem_cons.mpr ⟨t5_3_2_0 c f0 f1 f2, List.forall_mem_cons.mpr ⟨t5_3_2_1 c f0 f1 f2, List.forall_mem_cons.mpr ⟨t5_3_2_2 c f0 f1 f2, fun _ h => nomatch h⟩⟩⟩, List.forall_mem_cons.mpr ⟨fun s _ => t5_3_3 c s f0 f1 f2, List.forall_mem_cons.mpr ⟨fun s _ => t5_3_4 c s f0 f1 f2, fun _ h => nomatch h⟩⟩⟩⟩⟩
  | 4, _ => exact List.forall_mem_cons.mpr ⟨List.forall_mem_cons.mpr ⟨t5_4_0_0 c f0 f1 f2, List.forall_mem_cons.mpr ⟨t5_4_0_1 c f0 f1 f2, List.forall_mem_cons.mpr ⟨t5_4_0_2 c f0 f1 f2, fun _ h => nomatch h⟩⟩⟩, List.forall_mem_cons.mpr ⟨List.forall_mem_cons.mpr ⟨t5_4_1_0 c f0 f1 f2, List.forall_mem_cons.mpr ⟨t5_4_1_1 c f0 f1 f2, List.forall_mem_cons.mpr ⟨t5_4_1_2 c f0 f1 f2, fun _ h => nomatch h⟩⟩⟩, List.forall_mem_cons.mpr ⟨List.forall_mem_cons.mpr ⟨t5_4_2_0 c f0 f1 f2, List.forall_mem_cons.mpr ⟨t5_4_2_1 c f0 f1 f2, List.forall_mem_cons.mpr ⟨t5_4_2_2 c f0 f1 f2, fun _ h => nomatch h⟩⟩⟩, List.forall_mem_cons.mpr ⟨fun s _ => t5_4_3 c s f0 f1 f2, List.forall_mem_cons.mpr ⟨fun s _ => t5_4_4 c s f0 f1 f2, fun _ h => nomatch h⟩⟩⟩⟩⟩
  | 5, _ => exact List.forall_mem_cons.mpr ⟨List.forall_mem_cons.mpr ⟨t5_5_0_0 c f0 f1 f2, List.forall_mem_cons.mpr ⟨t5_5_0_1 c f0 f1 f2, List.forall_mem_cons.mpr ⟨t5_5_0_2 c f0 f1 f2, fun _ h => nomatch h⟩⟩⟩, List.forall_mem_cons.mpr ⟨List.forall_mem_cons.mpr ⟨t5_5_1_0 c f0 f1 f2, List.forall_mem_cons.mpr ⟨t5_5_1_1 c f0 f1 f2, List.forall_mem_cons.mpr ⟨t5_5_1_2 c f0 f1 f2, fun _ h => nomatch h⟩⟩⟩, List.forall_mem_cons.mpr ⟨List.forall_mem_cons.mpr ⟨t5_5_2_0 c f0 f1 f2, List.forall_mem_cons.mpr ⟨t5_5_2_1 c f0 f1 f2, List.forall_mem_cons.mpr ⟨t5_5_2_2 c f0 f1 f2, fun _ h => nomatch h⟩⟩⟩, List.forall_mem_cons.mpr ⟨fun s _ => t5_5_3 c s f0 f1 f2, List.forall_mem_cons.mpr ⟨fun s _ => t5_5_4 c s f0 f1 f2, fun _ h => nomatch h⟩⟩⟩⟩⟩
  | 6, _ => exact List.forall_mem_cons.mpr ⟨List.forall_mem_cons.mpr ⟨t5_6_0_0 c f0 f1 f2, List.forall_mem_cons.mpr ⟨t5_6_0_1 c f0 f1 f2, List.forall_mem_cons.mpr ⟨t5_6_0_2 c f0 f1 f2, fun _ h => nomatch h⟩⟩⟩, List.forall_mem_cons.mpr ⟨List.forall_mem_cons.mpr ⟨t5_6_1_0 c f0 f1 f2, List.forall_mem_cons.mpr ⟨t5_6_1_1 c f0 f1 f2, List.forall_mem_cons.mpr ⟨t5_6_1_2 c f0 f1 f2, fun _ h => nomatch h⟩⟩⟩, List.forall_mem_cons.mpr ⟨List.forall_mem_cons.mpr ⟨t5_6_2_0 c f0 f1 f2, List.forall_mem_cons.mpr ⟨t5_6_2_1 c f0 f1 f2, List.forall_mem_cons.mpr ⟨t5_6_2_2 c f0 f1 f2, fun _ h => nomatch h⟩⟩⟩, List.forall_mem_cons.mpr ⟨fun s _ => t5_6_3 c s f0 f1 f2, List.forall_mem_cons.mpr ⟨fun s _ => t5_6_4 c s f0 f1 f2, fun _ h => nomatch h⟩⟩⟩⟩⟩
  | 7, _ => exact List.forall_mem_cons.mpr ⟨List.forall_mem_cons.mpr ⟨t5_7_0_0 c f0 f1 f2, List.forall_mem_cons.mpr ⟨t5_7_0_1 c f0 f1 f2, List.forall_mem_cons.mpr ⟨t5_7_0_2 c f0 f1 f2, fun _ h => nomatch h⟩⟩⟩, List.forall_mem_cons.mpr ⟨List.forall_mem_cons.mpr ⟨t5_7_1_0 c f0 f1 f2, List.forall_mem_cons.mpr ⟨t5_7_1_1 c f0 f1 f2, List.forall_mem_cons.mpr ⟨t5_7_1_2 c f0 f1 f2, fun _ h => nomatch h⟩⟩⟩, List.forall_mem_cons.mpr ⟨List.forall_mem_cons.mpr ⟨t5_7_2_0 c f0 f1 f2, List.forall_mem_cons.mpr ⟨t5_7_2_1 c f0 f1 f2, List.forall_mem_cons.mpr ⟨t5_7_2_2 c f0 f1 f2, fun _ h => nomatch h⟩⟩⟩, List.forall_mem_cons.mpr ⟨fun s _ => t5_7_3 c s f0 f1 f2, List.forall_mem_cons.mpr ⟨fun s _ => t5_7_4 c s f0 f1 f2, fun _ h => nomatch h⟩⟩⟩⟩⟩
  | 8, _ => exact List.forall_mem_cons.mpr ⟨List.forall_mem_cons.mpr ⟨t5_8_0_0 c f0 f1 f2, List.forall_mem_cons.mpr ⟨t5_8_0_1 c f0 f1 f2, List.forall_mem_cons.mpr ⟨t5_8_0_2 c f0 f1 f2, fun _ h => nomatch h⟩⟩⟩, List.forall_mem_cons.mpr ⟨List.forall_mem_cons.mpr ⟨t5_8_1_0 c f0 f1 f2, List.forall_mem_cons.mpr ⟨t5_8_1_1 c f0 f1 f2, List.forall_mem_cons.mpr ⟨t5_8_1_2 c f0 f1 f2, fun _ h => nomatch h⟩⟩⟩, List.forall_mem_cons.mpr ⟨List.forall_mem_cons.mpr ⟨t5_8_2_0 c f0 f1 f2, List.forall_mem_cons.mpr ⟨t5_8_2_1 c f0 f1 f2, List.forall_mem_cons.mpr ⟨t5_8_2_2 c f0 f1 f2, fun _ h => nomatch h⟩⟩⟩, List.forall_mem_cons.mpr ⟨fun s _ => t5_8_3 c s f0 f1 f2, List.forall_mem_cons.mpr ⟨fun s _ => t5_8_4 c s f0 f1 f2, fun _ h => nomatch h⟩⟩⟩⟩⟩
  | 9, _ => exact List.forall_mem_cons.mpr ⟨List.forall_mem_cons.mpr ⟨t5_9_0_0 c f0 f1 f2, List.forall_mem_cons.mpr ⟨t5_9_0_1 c f0 f1 f2, List.forall_mem_cons.mpr ⟨t5_9_0_2 c f0 f1 f2, fun _ h => nomatch h⟩⟩⟩, List.forall_mem_cons.mpr ⟨List.forall_mem_cons.mpr ⟨t5_9_1_0 c f0 f1 f2, List.forall_mem_cons.mpr ⟨t5_9_1_1 c f0 f1 f2, List.forall_mem_cons.mpr ⟨t5_9_1_2 c f0 f1 f2, fun _ h => nomatch h⟩⟩⟩, List.forall_mem_cons.mpr ⟨List.forall_mem_cons.mpr ⟨t5_9_2_0 c f0 f1 f2, List.forall_mem_cons.mpr ⟨t5_9_2_1 c f0 f1 f2, List.forall_mem_cons.mpr ⟨t5_9_2_2 c f0 f1 f2, fun _ h => nomatch h⟩⟩⟩, List.forall_mem_cons.mpr ⟨fun s _ => t5_9_3 c s f0 f1 f2, List.forall_mem_cons.mpr ⟨fun s _ => t5_9_4 c s f0 f1 f2, fun _ h => nomatch h⟩⟩⟩⟩⟩
  | 10, _ => exact List.forall_mem_cons.mpr ⟨List.forall_mem_cons.mpr ⟨t5_10_0_0 c f0 f1 f2, List.forall_mem_cons.mpr ⟨t5_10_0_1 c f0 f1 f2, List.forall_mem_cons.mpr ⟨t5_10_0_2 c f0 f1 f2, fun _ h => nomatch h⟩⟩⟩, List.forall_mem_cons.mpr ⟨List.forall_mem_cons.mpr ⟨t5_10_1_0 c f0 f1 f2, List.forall_mem_cons.mpr ⟨t5_10_1_1 c f0 f1 f2, List.forall_mem_cons.mpr ⟨t5_10_1_2 c f0 f1 f2, fun _ h => nomatch h⟩⟩⟩, List.forall_mem_cons.mpr ⟨List.forall_mem_cons.mpr ⟨t5_10_2_0 c f0 f1 f2, List.forall_mem_cons.mpr ⟨t5_10_2_1 c f0 f1 f2, List.forall_mem_cons.mpr ⟨t5_10_2_2 c f0 f1 f2, fun _ h => nomatch h⟩⟩⟩, List.forall_mem_cons.mpr ⟨fun s _ => t5_10_3 c s f0 f1 f2, List.forall_mem_cons.mpr ⟨fun s _ => t5_10_4 c s f0 f1 f2, fun _ h => nomatch h⟩⟩⟩⟩⟩
  | n + 11, h => omega
end Mine
end

section
set_option maxRecDepth 100000
set_option maxHeartbeats 0
namespace Mine
noncomputable def RO : FnRec := (aget fnT f_law_others_right).getD ⟨[], [], .nil, [], []⟩
noncomputable def fiO : FI := ⟨RO.locs, RO.glbs, 13, []⟩
noncomputable def hdO : PSs → Nat → PSs
  | .cons s r, n + 1 => .cons s (hdO r n)
  | _, _ => .nil
noncomputable def tlO : PSs → Nat → PSs
  | .cons _ r, n + 1 => tlO r n
  | r, _ => r
theorem exs_app (tb : Tb) (fi : FI) : ∀ (n k : Nat) (b : PSs) (l : Loc) (σ : Sig) (l1 : Loc) (σ1 : Sig), (run tb (k + 1 + n)).exs fi l (hdO b n) σ = .next l1 σ1 → tlO b n ≠ .nil → (run tb (k + 1 + n)).exs fi l b σ = (run tb (k + 1)).exs fi l1 (tlO b n) σ1
  | 0, k, b, l, σ, l1, σ1, h, _ => by
    have e1 : hdO b 0 = .nil := by cases b <;> rfl
    have e2 : tlO b 0 = b := by cases b <;> rfl
    rw [e1] at h
    rw [e2]
    have h : OutS.next l σ = .next l1 σ1 := h
    cases h
    rfl
  | n + 1, k, b, l, σ, l1, σ1, h, hn => by
    cases b with
    | nil => exact absurd rfl hn
    | cons s r =>
      have h : (match (run tb (k + 1 + n)).ex fi l s σ with | .next l σ => (run tb (k + 1 + n)).exs fi l (hdO r n) σ | q => q) = .next l1 σ1 := h
      show (match (run tb (k + 1 + n)).ex fi l s σ with | .next l σ => (run tb (k + 1 + n)).exs fi l r σ | q => q) = _
      cases z : (run tb (k + 1 + n)).ex fi l s σ with
      | next l2 σ2 =>
        rw [z] at h
        exact exs_app tb fi n k r l2 σ2 l1 σ1 h hn
      | stuck => rw [z] at h; cases h
      | ret v σ2 => rw [z] at h; cases h
      | exc σ2 => rw [z] at h; cases h
      | rai σ2 => rw [z] at h; cases h
theorem cl_gen {tb : Tb} {n c f : Nat} {as : List AV} {σ : Sig} {R : FnRec} {l : Loc} (h1 : aget tb.fnT f = some R) (h2 : zipP R.params as R.dflts = some l) : (run tb (n + 1)).cl c f as σ = clOut σ.nxt ((run tb n).exs ⟨R.locs, R.glbs, c, []⟩ l R.body σ) := by
  show (match aget tb.fnT f with
    | some R => match zipP R.params as R.dflts with
      | some l => clOut σ.nxt ((run tb n).exs ⟨R.locs, R.glbs, c, []⟩ l R.body σ)
      | none => .stuck
    | none => .stuck) = _
  rw [h1]
  show (match zipP R.params as R.dflts with
      | some l => clOut σ.nxt ((run tb n).exs ⟨R.locs, R.glbs, c, []⟩ l R.body σ)
      | none => .stuck) = _
  rw [h2]
theorem oth_gen {tb : Tb} {k c f : Nat} {as : List AV} {σ : Sig} {R : FnRec} {l l1 : Loc} {σ1 : Sig} {led : Led} (h1 : aget tb.fnT f = some R) (h2 : zipP R.params as R.dflts = some l) (h0 : (run tb (k + 1 + 4)).exs ⟨R.locs, R.glbs, c, []⟩ l (hdO R.body 4) σ = .next l1 σ1)
    (hn : tlO R.body 4 ≠ .nil) (h3 : outT (clOut σ.nxt ((run tb (k + 1)).exs ⟨R.locs, R.glbs, c, []⟩ l1 (tlO R.body 4) σ1)) = some led) : outT ((run tb (k + 1 + 4 + 1)).cl c f as σ) = some led := by
  rw [cl_gen h1 h2, exs_app tb _ 4 k R.body l σ l1 σ1 h0 hn]
  exact h3
theorem RO_at : aget fnT f_law_others_right = some RO := by kernel_rfl
theorem RO_tl : tlO RO.body 4 ≠ .nil := by
  have h : (match tlO RO.body 4 with | .nil => false | _ => true) = true := by kernel_rfl
  intro q
  rw [q] at h
  cases h
noncomputable def locS (sc : Int) : Loc := (zipP RO.params [.sym 0, .int sc] RO.dflts).getD []
theorem RO_zip (sc : Int) : zipP RO.params [.sym 0, .int sc] RO.dflts = some (locS sc) := by kernel_rfl
noncomputable def locO0 : Loc := [(34, .sym 0), (10, .int (0)), (12, .ref 513)]
noncomputable def ledO0 : Led := (541, .inst 0 540) :: (540, .dct [(0, .str [105, 110, 100, 101, 120]), (2, .int (4)), (3, .none), (4, .str [105, 110, 100, 101, 120]), (5, .str [116, 114, 97, 105, 108, 105, 110, 103]), (6, .bool false), (7, .bool false), (8, .bool false), (9, .int (9)), (10, .int (0)), (11, .bool true)]) :: (539, .inst 0 538) :: (538, .dct [(0, .str [105, 110, 100, 101, 120]), (2, .int (4)), (3, .none), (4, .str [105, 110, 100, 101, 120]), (5, .str [116, 114, 97, 105, 108, 105, 110, 103]), (6, .bool false), (7, .bool false), (8, .bool false), (9, .int (9)), (10, .int (0)), (11, .bool true)]) :: (537, .tup [.str [105, 110, 100, 101, 120], .int (4), .none, .str [105, 110, 100, 101, 120], .ref 513, .ref 536]) :: (536, .tup [.int (9), .int (0), .bool true]) :: (535, .tup [.str [105, 110, 100, 101, 120], .int (4), .none, .str [105, 110, 100, 101, 120], .ref 533, .ref 534]) :: (534, .tup [.int (9), .int (0), .bool true]) :: (533, .tup [.str [116, 114, 97, 105, 108, 105, 110, 103], .bool false, .bool false, .bool false]) :: (532, .inst 0 531) :: (531, .dct [(0, .str [105, 110, 100, 101, 120]), (2, .int (4)), (3, .none), (4, .str [105, 110, 100, 101, 120]), (5, .str [116, 114, 97, 105, 108, 105, 110, 103]), (6, .bool false), (7, .bool false), (8, .bool false), (9, .int (9)), (10, .int (0)), (11, .bool true)]) :: (530, .tup [.str [97, 108, 112, 104, 97, 110, 117, 109, 101, 114, 105, 99], .int (0), .none, .str [100, 105, 115, 112, 108, 97, 121], .ref 513, .ref 529]) :: (529, .tup [.int (0), .int (0), .bool false]) :: (528, .tup [.str [97, 108, 112, 104, 97, 110, 117, 109, 101, 114, 105, 99], .int (0), .none, .str [100, 105, 115, 112, 108, 97, 121], .ref 526, .ref 527]) :: (527, .tup [.int (0), .int (0), .bool false]) :: (526, .tup [.str [116, 114, 97, 105, 108, 105, 110, 103], .bool false, .bool false, .bool false]) :: (525, .inst 0 524) :: (524, .dct [(0, .str [97, 108, 112, 104, 97, 110, 117, 109, 101, 114, 105, 99]), (2, .int (0)), (3, .none), (4, .str [100, 105, 115, 112, 108, 97, 121]), (5, .str [116, 114, 97, 105, 108, 105, 110, 103]), (6, .bool false), (7, .bool false), (8, .bool false), (9, .int (0)), (10, .int (0)), (11, .bool false)]) :: (522, .inst 0 521) :: (521, .dct [(0, .str [103, 114, 111, 117, 112]), (2, .int (0)), (3, .none), (4, .str [100, 105, 115, 112, 108, 97, 121]), (5, .str [116, 114, 97, 105, 108, 105, 110, 103]), (6, .bool false), (7, .bool false), (8, .bool false), (9, .int (0)), (10, .int (0)), (11, .bool false)]) :: (520, .tup [.str [103, 114, 111, 117, 112], .int (0), .none, .str [100, 105, 115, 112, 108, 97, 121], .ref 513, .ref 519]) :: (519, .tup [.int (0), .int (0), .bool false]) :: (518, .tup [.str [103, 114, 111, 117, 112], .int (0), .none, .str [100, 105, 115, 112, 108, 97, 121], .ref 516, .ref 517]) :: (517, .tup [.int (0), .int (0), .bool false]) :: (516, .tup [.str [116, 114, 97, 105, 108, 105, 110, 103], .bool false, .bool false, .bool false]) :: (515, .inst 0 514) :: (514, .dct [(0, .str [103, 114, 111, 117, 112]), (2, .int (0)), (3, .none), (4, .str [100, 105, 115, 112, 108, 97, 121]), (5, .str [116, 114, 97, 105, 108, 105, 110, 103]), (6, .bool false), (7, .bool false), (8, .bool false), (9, .int (0)), (10, .int (0)), (11, .bool false)]) :: (513, .tup [.str [116, 114, 97, 105, 108, 105, 110, 103], .bool false, .bool false, .bool false]) :: led0
theorem preO0 (D : Int) (neg : Bool) : (run (tbX D neg) (190 + 1 + 4)).exs ⟨RO.locs, RO.glbs, 13, []⟩ (locS 0) (hdO RO.body 4) ⟨led0, nxt0⟩ = .next locO0 ⟨ledO0, 543⟩ := by kernel_rfl
noncomputable abbrev PO0 (D : Int) (neg : Bool) : Prop := outT (clOut nxt0 ((run (tbX D neg) (190 + 1)).exs ⟨RO.locs, RO.glbs, 13, []⟩ locO0 (tlO RO.body 4) ⟨ledO0, 543⟩)) = some led0
theorem pO0_1 (neg : Bool) : PO0 1 neg := by
  cases neg with
  | false => kernel_rfl
  | true => kernel_rfl
theorem pO0_2 (neg : Bool) : PO0 2 neg := by
  cases neg with
  | false => kernel_rfl
  | true => kernel_rfl
theorem pO0_3 (neg : Bool) : PO0 3 neg := by
  cases neg with
  | false => kernel_rfl
  | true => kernel_rfl
theorem pO0_4 (neg : Bool) : PO0 4 neg := by
  cases neg with
  | false => kernel_rfl
  | true => kernel_rfl
theorem pO0_5 (neg : Bool) : PO0 5 neg := by
  cases neg with
  | false => kernel_rfl
  | true => kernel_rfl
theorem pO0_6 (neg : Bool) : PO0 6 neg := by
  cases neg with
  | false => kernel_rfl
  | true => kernel_rfl
theorem pO0_7 (neg : Bool) : PO0 7 neg := by
  cases neg with
  | false => kernel_rfl
  | true => kernel_rfl
theorem pO0_8 (neg : Bool) : PO0 8 neg := by
  cases neg with
  | false => kernel_rfl
  | true => kernel_rfl
theorem pO0_9 (neg : Bool) : PO0 9 neg := by
  cases neg with
  | false => kernel_rfl
  | true => kernel_rfl
theorem pO0_10 (neg : Bool) : PO0 10 neg := by
  cases neg with
  | false => kernel_rfl
  | true => kernel_rfl
theorem pO0_11 (neg : Bool) : PO0 11 neg := by
  cases neg with
  | false => kernel_rfl
  | true => kernel_rfl
theorem pO0_12 (neg : Bool) : PO0 12 neg := by
  cases neg with
  | false => kernel_rfl
  | true => kernel_rfl
theorem pO0_13 (neg : Bool) : PO0 13 neg := by
  cases neg with
  | false => kernel_rfl
  | true => kernel_rfl
theorem pO0_14 (neg : Bool) : PO0 14 neg := by
  cases neg with
  | false => kernel_rfl
  | true => kernel_rfl
theorem pO0_15 (neg : Bool) : PO0 15 neg := by
  cases neg with
  | false => kernel_rfl
  | true => kernel_rfl
theorem pO0_16 (neg : Bool) : PO0 16 neg := by
  cases neg with
  | false => kernel_rfl
  | true => kernel_rfl
theorem pO0_17 (neg : Bool) : PO0 17 neg := by
  cases neg with
  | false => kernel_rfl
  | true => kernel_rfl
theorem pO0_18 (neg : Bool) : PO0 18 neg := by
  cases neg with
  | false => kernel_rfl
  | true => kernel_rfl
theorem pO0_19 (neg : Bool) : PO0 19 neg := by
  cases neg with
  | false => kernel_rfl
  | true => kernel_rfl
noncomputable def locO1 : Loc := [(34, .sym 0), (10, .int (1)), (12, .ref 513)]
noncomputable def ledO1 : Led := (541, .inst 0 540) :: (540, .dct [(0, .str [105, 110, 100, 101, 120]), (2, .int (4)), (3, .none), (4, .str [105, 110, 100, 101, 120]), (5, .str [116, 114, 97, 105, 108, 105, 110, 103]), (6, .bool false), (7, .bool false), (8, .bool false), (9, .int (9)), (10, .int (0)), (11, .bool true)]) :: (539, .inst 0 538) :: (538, .dct [(0, .str [105, 110, 100, 101, 120]), (2, .int (4)), (3, .none), (4, .str [105, 110, 100, 101, 120]), (5, .str [116, 114, 97, 105, 108, 105, 110, 103]), (6, .bool false), (7, .bool false), (8, .bool false), (9, .int (9)), (10, .int (0)), (11, .bool true)]) :: (537, .tup [.str [105, 110, 100, 101, 120], .int (4), .none, .str [105, 110, 100, 101, 120], .ref 513, .ref 536]) :: (536, .tup [.int (9), .int (0), .bool true]) :: (535, .tup [.str [105, 110, 100, 101, 120], .int (4), .none, .str [105, 110, 100, 101, 120], .ref 533, .ref 534]) :: (534, .tup [.int (9), .int (0), .bool true]) :: (533, .tup [.str [116, 114, 97, 105, 108, 105, 110, 103], .bool false, .bool false, .bool false]) :: (532, .inst 0 531) :: (531, .dct [(0, .str [105, 110, 100, 101, 120]), (2, .int (4)), (3, .none), (4, .str [105, 110, 100, 101, 120]), (5, .str [116, 114, 97, 105, 108, 105, 110, 103]), (6, .bool false), (7, .bool false), (8, .bool false), (9, .int (9)), (10, .int (0)), (11, .bool true)]) :: (530, .tup [.str [97, 108, 112, 104, 97, 110, 117, 109, 101, 114, 105, 99], .int (1), .none, .str [100, 105, 115, 112, 108, 97, 121], .ref 513, .ref 529]) :: (529, .tup [.int (0), .int (0), .bool false]) :: (528, .tup [.str [97, 108, 112, 104, 97, 110, 117, 109, 101, 114, 105, 99], .int (1), .none, .str [100, 105, 115, 112, 108, 97, 121], .ref 526, .ref 527]) :: (527, .tup [.int (0), .int (0), .bool false]) :: (526, .tup [.str [116, 114, 97, 105, 108, 105, 110, 103], .bool false, .bool false, .bool false]) :: (525, .inst 0 524) :: (524, .dct [(0, .str [97, 108, 112, 104, 97, 110, 117, 109, 101, 114, 105, 99]), (2, .int (1)), (3, .none), (4, .str [100, 105, 115, 112, 108, 97, 121]), (5, .str [116, 114, 97, 105, 108, 105, 110, 103]), (6, .bool false), (7, .bool false), (8, .bool false), (9, .int (0)), (10, .int (0)), (11, .bool false)]) :: (522, .inst 0 521) :: (521, .dct [(0, .str [103, 114, 111, 117, 112]), (2, .int (1)), (3, .none), (4, .str [100, 105, 115, 112, 108, 97, 121]), (5, .str [116, 114, 97, 105, 108, 105, 110, 103]), (6, .bool false), (7, .bool false), (8, .bool false), (9, .int (0)), (10, .int (0)), (11, .bool false)]) :: (520, .tup [.str [103, 114, 111, 117, 112], .int (1), .none, .str [100, 105, 115, 112, 108, 97, 121], .ref 513, .ref 519]) :: (519, .tup [.int (0), .int (0), .bool false]) :: (518, .tup [.str [103, 114, 111, 117, 112], .int (1), .none, .str [100, 105, 115, 112, 108, 97, 121], .ref 516, .ref 517]) :: (517, .tup [.int (0), .int (0), .bool false]) :: (516, .tup [.str [116, 114, 97, 105, 108, 105, 110, 103], .bool false, .bool false, .bool false]) :: (515, .inst 0 514) :: (514, .dct [(0, .str [103, 114, 111, 117, 112]), (2, .int (1)), (3, .none), (4, .str [100, 105, 115, 112, 108, 97, 121]), (5, .str [116, 114, 97, 105, 108, 105, 110, 103]), (6, .bool false), (7, .bool false), (8, .bool false), (9, .int (0)), (10, .int (0)), (11, .bool false)]) :: (513, .tup [.str [116, 114, 97, 105, 108, 105, 110, 103], .bool false, .bool false, .bool false]) :: led0
theorem preO1 (D : Int) (neg : Bool) : (run (tbX D neg) (190 + 1 + 4)).exs ⟨RO.locs, RO.glbs, 13, []⟩ (locS 1) (hdO RO.body 4) ⟨led0, nxt0⟩ = .next locO1 ⟨ledO1, 543⟩ := by kernel_rfl
noncomputable abbrev PO1 (D : Int) (neg : Bool) : Prop := outT (clOut nxt0 ((run (tbX D neg) (190 + 1)).exs ⟨RO.locs, RO.glbs, 13, []⟩ locO1 (tlO RO.body 4) ⟨ledO1, 543⟩)) = some led0
theorem pO1_1 (neg : Bool) : PO1 1 neg := by
  cases neg with
  | false => kernel_rfl
  | true => kernel_rfl
theorem pO1_2 (neg : Bool) : PO1 2 neg := by
  cases neg with
  | false => kernel_rfl
  | true => kernel_rfl
theorem pO1_3 (neg : Bool) : PO1 3 neg := by
  cases neg with
  | false => kernel_rfl
  | true => kernel_rfl
theorem pO1_4 (neg : Bool) : PO1 4 neg := by
  cases neg with
  | false => kernel_rfl
  | true => kernel_rfl
theorem pO1_5 (neg : Bool) : PO1 5 neg := by
  cases neg with
  | false => kernel_rfl
  | true => kernel_rfl
theorem pO1_6 (neg : Bool) : PO1 6 neg := by
  cases neg with
  | false => kernel_rfl
  | true => kernel_rfl
theorem pO1_7 (neg : Bool) : PO1 7 neg := by
  cases neg with
  | false => kernel_rfl
  | true => kernel_rfl
theorem pO1_8 (neg : Bool) : PO1 8 neg := by
  cases neg with
  | false => kernel_rfl
  | true => kernel_rfl
theorem pO1_9 (neg : Bool) : PO1 9 neg := by
  cases neg with
  | false => kernel_rfl
  | true => kernel_rfl
theorem pO1_10 (neg : Bool) : PO1 10 neg := by
  cases neg with
  | false => kernel_rfl
  | true => kernel_rfl
theorem pO1_11 (neg : Bool) : PO1 11 neg := by
  cases neg with
  | false => kernel_rfl
  | true => kernel_rfl
theorem pO1_12 (neg : Bool) : PO1 12 neg := by
  cases neg with
  | false => kernel_rfl
  | true => kernel_rfl
theorem pO1_13 (neg : Bool) : PO1 13 neg := by
  cases neg with
  | false => kernel_rfl
  | true => kernel_rfl
theorem pO1_14 (neg : Bool) : PO1 14 neg := by
  cases neg with
  | false => kernel_rfl
  | true => kernel_rfl
theorem pO1_15 (neg : Bool) : PO1 15 neg := by
  cases neg with
  | false => kernel_rfl
  | true => kernel_rfl
theorem pO1_16 (neg : Bool) : PO1 16 neg := by
  cases neg with
  | false => kernel_rfl
  | true => kernel_rfl
theorem pO1_17 (neg : Bool) : PO1 17 neg := by
  cases neg with
  | false => kernel_rfl
  | true => kernel_rfl
theorem pO1_18 (neg : Bool) : PO1 18 neg := by
  cases neg with
  | false => kernel_rfl
  | true => kernel_rfl
theorem pO1_19 (neg : Bool) : PO1 19 neg := by
  cases neg with
  | false => kernel_rfl
  | true => kernel_rfl
noncomputable def locO2 : Loc := [(34, .sym 0), (10, .int (2)), (12, .ref 513)]
noncomputable def ledO2 : Led := (541, .inst 0 540) :: (540, .dct [(0, .str [105, 110, 100, 101, 120]), (2, .int (4)), (3, .none), (4, .str [105, 110, 100, 101, 120]), (5, .str [116, 114, 97, 105, 108, 105, 110, 103]), (6, .bool false), (7, .bool false), (8, .bool false), (9, .int (9)), (10, .int (0)), (11, .bool true)]) :: (539, .inst 0 538) :: (538, .dct [(0, .str [105, 110, 100, 101, 120]), (2, .int (4)), (3, .none), (4, .str [105, 110, 100, 101, 120]), (5, .str [116, 114, 97, 105, 108, 105, 110, 103]), (6, .bool false), (7, .bool false), (8, .bool false), (9, .int (9)), (10, .int (0)), (11, .bool true)]) :: (537, .tup [.str [105, 110, 100, 101, 120], .int (4), .none, .str [105, 110, 100, 101, 120], .ref 513, .ref 536]) :: (536, .tup [.int (9), .int (0), .bool true]) :: (535, .tup [.str [105, 110, 100, 101, 120], .int (4), .none, .str [105, 110, 100, 101, 120], .ref 533, .ref 534]) :: (534, .tup [.int (9), .int (0), .bool true]) :: (533, .tup [.str [116, 114, 97, 105, 108, 105, 110, 103], .bool false, .bool false, .bool false]) :: (532, .inst 0 531) :: (531, .dct [(0, .str [105, 110, 100, 101, 120]), (2, .int (4)), (3, .none), (4, .str [105, 110, 100, 101, 120]), (5, .str [116, 114, 97, 105, 108, 105, 110, 103]), (6, .bool false), (7, .bool false), (8, .bool false), (9, .int (9)), (10, .int (0)), (11, .bool true)]) :: (530, .tup [.str [97, 108, 112, 104, 97, 110, 117, 109, 101, 114, 105, 99], .int (2), .none, .str [100, 105, 115, 112, 108, 97, 121], .ref 513, .ref 529]) :: (529, .tup [.int (0), .int (0), .bool false]) :: (528, .tup [.str [97, 108, 112, 104, 97, 110, 117, 109, 101, 114, 105, 99], .int (2), .none, .str [100, 105, 115, 112, 108, 97, 121], .ref 526, .ref 527]) :: (527, .tup [.int (0), .int (0), .bool false]) :: (526, .tup [.str [116, 114, 97, 105, 108, 105, 110, 103], .bool false, .bool false, .bool false]) :: (525, .inst 0 524) :: (524, .dct [(0, .str [97, 108, 112, 104, 97, 110, 117, 109, 101, 114, 105, 99]), (2, .int (2)), (3, .none), (4, .str [100, 105, 115, 112, 108, 97, 121]), (5, .str [116, 114, 97, 105, 108, 105, 110, 103]), (6, .bool false), (7, .bool false), (8, .bool false), (9, .int (0)), (10, .int (0)), (11, .bool false)]) :: (522, .inst 0 521) :: (521, .dct [(0, .str [103, 114, 111, 117, 112]), (2, .int (2)), (3, .none), (4, .str [100, 105, 115, 112, 108, 97, 121]), (5, .str [116, 114, 97, 105, 108, 105, 110, 103]), (6, .bool false), (7, .bool false), (8, .bool false), (9, .int (0)), (10, .int (0)), (11, .bool false)]) :: (520, .tup [.str [103, 114, 111, 117, 112], .int (2), .none, .str [100, 105, 115, 112, 108, 97, 121], .ref 513, .ref 519]) :: (519, .tup [.int (0), .int (0), .bool false]) :: (518, .tup [.str [103, 114, 111, 117, 112], .int (2), .none, .str [100, 105, 115, 112, 108, 97, 121], .ref 516, .ref 517]) :: (517, .tup [.int (0), .int (0), .bool false]) :: (516, .tup [.str [116, 114, 97, 105, 108, 105, 110, 103], .bool false, .bool false, .bool false]) :: (515, .inst 0 514) :: (514, .dct [(0, .str [103, 114, 111, 117, 112]), (2, .int (2)), (3, .none), (4, .str [100, 105, 115, 112, 108, 97, 121]), (5, .str [116, 114, 97, 105, 108, 105, 110, 103]), (6, .bool false), (7, .bool false), (8, .bool false), (9, .int (0)), (10, .int (0)), (11, .bool false)]) :: (513, .tup [.str [116, 114, 97, 105, 108, 105, 110, 103], .bool false, .bool false, .bool false]) :: led0
theorem preO2 (D : Int) (neg : Bool) : (run (tbX D neg) (190 + 1 + 4)).exs ⟨RO.locs, RO.glbs, 13, []⟩ (locS 2) (hdO RO.body 4) ⟨led0, nxt0⟩ = .next locO2 ⟨ledO2, 543⟩ := by kernel_rfl
noncomputable abbrev PO2 (D : Int) (neg : Bool) : Prop := outT (clOut nxt0 ((run (tbX D neg) (190 + 1)).exs ⟨RO.locs, RO.glbs, 13, []⟩ locO2 (tlO RO.body 4) ⟨ledO2, 543⟩)) = some led0
theorem pO2_1 (neg : Bool) : PO2 1 neg := by
  cases neg with
  | false => kernel_rfl
  | true => kernel_rfl
theorem pO2_2 (neg : Bool) : PO2 2 neg := by
  cases neg with
  | false => kernel_rfl
  | true => kernel_rfl
theorem pO2_3 (neg : Bool) : PO2 3 neg := by
  cases neg with
  | false => kernel_rfl
  | true => kernel_rfl
theorem pO2_4 (neg : Bool) : PO2 4 neg := by
  cases neg with
  | false => kernel_rfl
  | true => kernel_rfl
theorem pO2_5 (neg : Bool) : PO2 5 neg := by
  cases neg with
  | false => kernel_rfl
  | true => kernel_rfl
theorem pO2_6 (neg : Bool) : PO2 6 neg := by
  cases neg with
  | false => kernel_rfl
  | true => kernel_rfl
theorem pO2_7 (neg : Bool) : PO2 7 neg := by
  cases neg with
  | false => kernel_rfl
  | true => kernel_rfl
theorem pO2_8 (neg : Bool) : PO2 8 neg := by
  cases neg with
  | false => kernel_rfl
  | true => kernel_rfl
theorem pO2_9 (neg : Bool) : PO2 9 neg := by
  cases neg with
  | false => kernel_rfl
  | true => kernel_rfl
theorem pO2_10 (neg : Bool) : PO2 10 neg := by
  cases neg with
  | false => kernel_rfl
  | true => kernel_rfl
theorem pO2_11 (neg : Bool) : PO2 11 neg := by
  cases neg with
  | false => kernel_rfl
  | true => kernel_rfl
theorem pO2_12 (neg : Bool) : PO2 12 neg := by
  cases neg with
  | false => kernel_rfl
  | true => kernel_rfl
theorem pO2_13 (neg : Bool) : PO2 13 neg := by
  cases neg with
  | false => kernel_rfl
  | true => kernel_rfl
theorem pO2_14 (neg : Bool) : PO2 14 neg := by
  cases neg with
  | false => kernel_rfl
  | true => kernel_rfl
theorem pO2_15 (neg : Bool) : PO2 15 neg := by
  cases neg with
  | false => kernel_rfl
  | true => kernel_rfl
theorem pO2_16 (neg : Bool) : PO2 16 neg := by
  cases neg with
  | false => kernel_rfl
  | true => kernel_rfl
theorem pO2_17 (neg : Bool) : PO2 17 neg := by
  cases neg with
  | false => kernel_rfl
  | true => kernel_rfl
theorem pO2_18 (neg : Bool) : PO2 18 neg := by
  cases neg with
  | false => kernel_rfl
  | true => kernel_rfl
theorem pO2_19 (neg : Bool) : PO2 19 neg := by
  cases neg with
  | false => kernel_rfl
  | true => kernel_rfl
noncomputable def locO3 : Loc := [(34, .sym 0), (10, .int (3)), (12, .ref 513)]
noncomputable def ledO3 : Led := (541, .inst 0 540) :: (540, .dct [(0, .str [105, 110, 100, 101, 120]), (2, .int (4)), (3, .none), (4, .str [105, 110, 100, 101, 120]), (5, .str [116, 114, 97, 105, 108, 105, 110, 103]), (6, .bool false), (7, .bool false), (8, .bool false), (9, .int (9)), (10, .int (0)), (11, .bool true)]) :: (539, .inst 0 538) :: (538, .dct [(0, .str [105, 110, 100, 101, 120]), (2, .int (4)), (3, .none), (4, .str [105, 110, 100, 101, 120]), (5, .str [116, 114, 97, 105, 108, 105, 110, 103]), (6, .bool false), (7, .bool false), (8, .bool false), (9, .int (9)), (10, .int (0)), (11, .bool true)]) :: (537, .tup [.str [105, 110, 100, 101, 120], .int (4), .none, .str [105, 110, 100, 101, 120], .ref 513, .ref 536]) :: (536, .tup [.int (9), .int (0), .bool true]) :: (535, .tup [.str [105, 110, 100, 101, 120], .int (4), .none, .str [105, 110, 100, 101, 120], .ref 533, .ref 534]) :: (534, .tup [.int (9), .int (0), .bool true]) :: (533, .tup [.str [116, 114, 97, 105, 108, 105, 110, 103], .bool false, .bool false, .bool false]) :: (532, .inst 0 531) :: (531, .dct [(0, .str [105, 110, 100, 101, 120]), (2, .int (4)), (3, .none), (4, .str [105, 110, 100, 101, 120]), (5, .str [116, 114, 97, 105, 108, 105, 110, 103]), (6, .bool false), (7, .bool false), (8, .bool false), (9, .int (9)), (10, .int (0)), (11, .bool true)]) :: (530, .tup [.str [97, 108, 112, 104, 97, 110, 117, 109, 101, 114, 105, 99], .int (3), .none, .str [100, 105, 115, 112, 108, 97, 121], .ref 513, .ref 529]) :: (529, .tup [.int (0), .int (0), .bool false]) :: (528, .tup [.str [97, 108, 112, 104, 97, 110, 117, 109, 101, 114, 105, 99], .int (3), .none, .str [100, 105, 115, 112, 108, 97, 121], .ref 526, .ref 527]) :: (527, .tup [.int (0), .int (0), .bool false]) :: (526, .tup [.str [116, 114, 97, 105, 108, 105, 110, 103], .bool false, .bool false, .bool false]) :: (525, .inst 0 524) :: (524, .dct [(0, .str [97, 108, 112, 104, 97, 110, 117, 109, 101, 114, 105, 99]), (2, .int (3)), (3, .none), (4, .str [100, 105, 115, 112, 108, 97, 121]), (5, .str [116, 114, 97, 105, 108, 105, 110, 103]), (6, .bool false), (7, .bool false), (8, .bool false), (9, .int (0)), (10, .int (0)), (11, .bool false)]) :: (522, .inst 0 521) :: (521, .dct [(0, .str [103, 114, 111, 117, 112]), (2, .int (3)), (3, .none), (4, .str [100, 105, 115, 112, 108, 97, 121]), (5, .str [116, 114, 97, 105, 108, 105, 110, 103]), (6, .bool false), (7, .bool false), (8, .bool false), (9, .int (0)), (10, .int (0)), (11, .bool false)]) :: (520, .tup [.str [103, 114, 111, 117, 112], .int (3), .none, .str [100, 105, 115, 112, 108, 97, 121], .ref 513, .ref 519]) :: (519, .tup [.int (0), .int (0), .bool false]) :: (518, .tup [.str [103, 114, 111, 117, 112], .int (3), .none, .str [100, 105, 115, 112, 108, 97, 121], .ref 516, .ref 517]) :: (517, .tup [.int (0), .int (0), .bool false]) :: (516, .tup [.str [116, 114, 97, 105, 108, 105, 110, 103], .bool false, .bool false, .bool false]) :: (515, .inst 0 514) :: (514, .dct [(0, .str [103, 114, 111, 117, 112]), (2, .int (3)), (3, .none), (4, .str [100, 105, 115, 112, 108, 97, 121]), (5, .str [116, 114, 97, 105, 108, 105, 110, 103]), (6, .bool false), (7, .bool false), (8, .bool false), (9, .int (0)), (10, .int (0)), (11, .bool false)]) :: (513, .tup [.str [116, 114, 97, 105, 108, 105, 110, 103], .bool false, .bool false, .bool false]) :: led0
theorem preO3 (D : Int) (neg : Bool) : (run (tbX D neg) (190 + 1 + 4)).exs ⟨RO.locs, RO.glbs, 13, []⟩ (locS 3) (hdO RO.body 4) ⟨led0, nxt0⟩ = .next locO3 ⟨ledO3, 543⟩ := by kernel_rfl
noncomputable abbrev PO3 (D : Int) (neg : Bool) : Prop := outT (clOut nxt0 ((run (tbX D neg) (190 + 1)).exs ⟨RO.locs, RO.glbs, 13, []⟩ locO3 (tlO RO.body 4) ⟨ledO3, 543⟩)) = some led0
theorem pO3_1 (neg : Bool) : PO3 1 neg := by
  cases neg with
  | false => kernel_rfl
  | true => kernel_rfl
theorem pO3_2 (neg : Bool) : PO3 2 neg := by
  cases neg with
  | false => kernel_rfl
  | true => kernel_rfl
theorem pO3_3 (neg : Bool) : PO3 3 neg := by
  cases neg with
  | false => kernel_rfl
  | true => kernel_rfl
theorem pO3_4 (neg : Bool) : PO3 4 neg := by
  cases neg with
  | false => kernel_rfl
  | true => kernel_rfl
theorem pO3_5 (neg : Bool) : PO3 5 neg := by
  cases neg with
  | false => kernel_rfl
  | true => kernel_rfl
theorem pO3_6 (neg : Bool) : PO3 6 neg := by
  cases neg with
  | false => kernel_rfl
  | true => kernel_rfl
theorem pO3_7 (neg : Bool) : PO3 7 neg := by
  cases neg with
  | false => kernel_rfl
  | true => kernel_rfl
theorem pO3_8 (neg : Bool) : PO3 8 neg := by
  cases neg with
  | false => kernel_rfl
  | true => kernel_rfl
theorem pO3_9 (neg : Bool) : PO3 9 neg := by
  cases neg with
  | false => kernel_rfl
  | true => kernel_rfl
theorem pO3_10 (neg : Bool) : PO3 10 neg := by
  cases neg with
  | false => kernel_rfl
  | true => kernel_rfl
theorem pO3_11 (neg : Bool) : PO3 11 neg := by
  cases neg with
  | false => kernel_rfl
  | true => kernel_rfl
theorem pO3_12 (neg : Bool) : PO3 12 neg := by
  cases neg with
  | false => kernel_rfl
  | true => kernel_rfl
theorem pO3_13 (neg : Bool) : PO3 13 neg := by
  cases neg with
  | false => kernel_rfl
  | true => kernel_rfl
theorem pO3_14 (neg : Bool) : PO3 14 neg := by
  cases neg with
  | false => kernel_rfl
  | true => kernel_rfl
theorem pO3_15 (neg : Bool) : PO3 15 neg := by
  cases neg with
  | false => kernel_rfl
  | true => kernel_rfl
theorem pO3_16 (neg : Bool) : PO3 16 neg := by
  cases neg with
  | false => kernel_rfl
  | true => kernel_rfl
theorem pO3_17 (neg : Bool) : PO3 17 neg := by
  cases neg with
  | false => kernel_rfl
  | true => kernel_rfl
theorem pO3_18 (neg : Bool) : PO3 18 neg := by
  cases neg with
  | false => kernel_rfl
  | true => kernel_rfl
theorem pO3_19 (neg : Bool) : PO3 19 neg := by
  cases neg with
  | false => kernel_rfl
  | true => kernel_rfl
noncomputable def locO4 : Loc := [(34, .sym 0), (10, .int (4)), (12, .ref 513)]
noncomputable def ledO4 : Led := (541, .inst 0 540) :: (540, .dct [(0, .str [105, 110, 100, 101, 120]), (2, .int (4)), (3, .none), (4, .str [105, 110, 100, 101, 120]), (5, .str [116, 114, 97, 105, 108, 105, 110, 103]), (6, .bool false), (7, .bool false), (8, .bool false), (9, .int (9)), (10, .int (0)), (11, .bool true)]) :: (539, .inst 0 538) :: (538, .dct [(0, .str [105, 110, 100, 101, 120]), (2, .int (4)), (3, .none), (4, .str [105, 110, 100, 101, 120]), (5, .str [116, 114, 97, 105, 108, 105, 110, 103]), (6, .bool false), (7, .bool false), (8, .bool false), (9, .int (9)), (10, .int (0)), (11, .bool true)]) :: (537, .tup [.str [105, 110, 100, 101, 120], .int (4), .none, .str [105, 110, 100, 101, 120], .ref 513, .ref 536]) :: (536, .tup [.int (9), .int (0), .bool true]) :: (535, .tup [.str [105, 110, 100, 101, 120], .int (4), .none, .str [105, 110, 100, 101, 120], .ref 533, .ref 534]) :: (534, .tup [.int (9), .int (0), .bool true]) :: (533, .tup [.str [116, 114, 97, 105, 108, 105, 110, 103], .bool false, .bool false, .bool false]) :: (532, .inst 0 531) :: (531, .dct [(0, .str [105, 110, 100, 101, 120]), (2, .int (4)), (3, .none), (4, .str [105, 110, 100, 101, 120]), (5, .str [116, 114, 97, 105, 108, 105, 110, 103]), (6, .bool false), (7, .bool false), (8, .bool false), (9, .int (9)), (10, .int (0)), (11, .bool true)]) :: (530, .tup [.str [97, 108, 112, 104, 97, 110, 117, 109, 101, 114, 105, 99], .int (4), .none, .str [100, 105, 115, 112, 108, 97, 121], .ref 513, .ref 529]) :: (529, .tup [.int (0), .int (0), .bool false]) :: (528, .tup [.str [97, 108, 112, 104, 97, 110, 117, 109, 101, 114, 105, 99], .int (4), .none, .str [100, 105, 115, 112, 108, 97, 121], .ref 526, .ref 527]) :: (527, .tup [.int (0), .int (0), .bool false]) :: (526, .tup [.str [116, 114, 97, 105, 108, 105, 110, 103], .bool false, .bool false, .bool false]) :: (525, .inst 0 524) :: (524, .dct [(0, .str [97, 108, 112, 104, 97, 110, 117, 109, 101, 114, 105, 99]), (2, .int (4)), (3, .none), (4, .str [100, 105, 115, 112, 108, 97, 121]), (5, .str [116, 114, 97, 105, 108, 105, 110, 103]), (6, .bool false), (7, .bool false), (8, .bool false), (9, .int (0)), (10, .int (0)), (11, .bool false)]) :: (522, .inst 0 521) :: (521, .dct [(0, .str [103, 114, 111, 117, 112]), (2, .int (4)), (3, .none), (4, .str [100, 105, 115, 112, 108, 97, 121]), (5, .str [116, 114, 97, 105, 108, 105, 110, 103]), (6, .bool false), (7, .bool false), (8, .bool false), (9, .int (0)), (10, .int (0)), (11, .bool false)]) :: (520, .tup [.str [103, 114, 111, 117, 112], .int (4), .none, .str [100, 105, 115, 112, 108, 97, 121], .ref 513, .ref 519]) :: (519, .tup [.int (0), .int (0), .bool false]) :: (518, .tup [.str [103, 114, 111, 117, 112], .int (4), .none, .str [100, 105, 115, 112, 108, 97, 121], .ref 516, .ref 517]) :: (517, .tup [.int (0), .int (0), .bool false]) :: (516, .tup [.str [116, 114, 97, 105, 108, 105, 110, 103], .bool false, .bool false, .bool false]) :: (515, .inst 0 514) :: (514, .dct [(0, .str [103, 114, 111, 117, 112]), (2, .int (4)), (3, .none), (4, .str [100, 105, 115, 112, 108, 97, 121]), (5, .str [116, 114, 97, 105, 108, 105, 110, 103]), (6, .bool false), (7, .bool false), (8, .bool false), (9, .int (0)), (10, .int (0)), (11, .bool false)]) :: (513, .tup [.str [116, 114, 97, 105, 108, 105, 110, 103], .bool false, .bool false, .bool false]) :: led0
theorem preO4 (D : Int) (neg : Bool) : (run (tbX D neg) (190 + 1 + 4)).exs ⟨RO.locs, RO.glbs, 13, []⟩ (locS 4) (hdO RO.body 4) ⟨led0, nxt0⟩ = .next locO4 ⟨ledO4, 543⟩ := by kernel_rfl
noncomputable abbrev PO4 (D : Int) (neg : Bool) : Prop := outT (clOut nxt0 ((run (tbX D neg) (190 + 1)).exs ⟨RO.locs, RO.glbs, 13, []⟩ locO4 (tlO RO.body 4) ⟨ledO4, 543⟩)) = some led0
theorem pO4_1 (neg : Bool) : PO4 1 neg := by
  cases neg with
  | false => kernel_rfl
  | true => kernel_rfl
theorem pO4_2 (neg : Bool) : PO4 2 neg := by
  cases neg with
  | false => kernel_rfl
  | true => kernel_rfl
theorem pO4_3 (neg : Bool) : PO4 3 neg := by
  cases neg with
  | false => kernel_rfl
  | true => kernel_rfl
theorem pO4_4 (neg : Bool) : PO4 4 neg := by
  cases neg with
  | false => kernel_rfl
  | true => kernel_rfl
theorem pO4_5 (neg : Bool) : PO4 5 neg := by
  cases neg with
  | false => kernel_rfl
  | true => kernel_rfl
theorem pO4_6 (neg : Bool) : PO4 6 neg := by
  cases neg with
  | false => kernel_rfl
  | true => kernel_rfl
theorem pO4_7 (neg : Bool) : PO4 7 neg := by
  cases neg with
  | false => kernel_rfl
  | true => kernel_rfl
theorem pO4_8 (neg : Bool) : PO4 8 neg := by
  cases neg with
  | false => kernel_rfl
  | true => kernel_rfl
theorem pO4_9 (neg : Bool) : PO4 9 neg := by
  cases neg with
  | false => kernel_rfl
  | true => kernel_rfl
theorem pO4_10 (neg : Bool) : PO4 10 neg := by
  cases neg with
  | false => kernel_rfl
  | true => kernel_rfl
theorem pO4_11 (neg : Bool) : PO4 11 neg := by
  cases neg with
  | false => kernel_rfl
  | true => kernel_rfl
theorem pO4_12 (neg : Bool) : PO4 12 neg := by
  cases neg with
  | false => kernel_rfl
  | true => kernel_rfl
theorem pO4_13 (neg : Bool) : PO4 13 neg := by
  cases neg with
  | false => kernel_rfl
  | true => kernel_rfl
theorem pO4_14 (neg : Bool) : PO4 14 neg := by
  cases neg with
  | false => kernel_rfl
  | true => kernel_rfl
theorem pO4_15 (neg : Bool) : PO4 15 neg := by
  cases neg with
  | false => kernel_rfl
  | true => kernel_rfl
theorem pO4_16 (neg : Bool) : PO4 16 neg := by
  cases neg with
  | false => kernel_rfl
  | true => kernel_rfl
theorem pO4_17 (neg : Bool) : PO4 17 neg := by
  cases neg with
  | false => kernel_rfl
  | true => kernel_rfl
theorem pO4_18 (neg : Bool) : PO4 18 neg := by
  cases neg with
  | false => kernel_rfl
  | true => kernel_rfl
theorem pO4_19 (neg : Bool) : PO4 19 neg := by
  cases neg with
  | false => kernel_rfl
  | true => kernel_rfl
noncomputable def locO5 : Loc := [(34, .sym 0), (10, .int (5)), (12, .ref 513)]
noncomputable def ledO5 : Led := (541, .inst 0 540) :: (540, .dct [(0, .str [105, 110, 100, 101, 120]), (2, .int (4)), (3, .none), (4, .str [105, 110, 100, 101, 120]), (5, .str [116, 114, 97, 105, 108, 105, 110, 103]), (6, .bool false), (7, .bool false), (8, .bool false), (9, .int (9)), (10, .int (0)), (11, .bool true)]) :: (539, .inst 0 538) :: (538, .dct [(0, .str [105, 110, 100, 101, 120]), (2, .int (4)), (3, .none), (4, .str [105, 110, 100, 101, 120]), (5, .str [116, 114, 97, 105, 108, 105, 110, 103]), (6, .bool false), (7, .bool false), (8, .bool false), (9, .int (9)), (10, .int (0)), (11, .bool true)]) :: (537, .tup [.str [105, 110, 100, 101, 120], .int (4), .none, .str [105, 110, 100, 101, 120], .ref 513, .ref 536]) :: (536, .tup [.int (9), .int (0), .bool true]) :: (535, .tup [.str [105, 110, 100, 101, 120], .int (4), .none, .str [105, 110, 100, 101, 120], .ref 533, .ref 534]) :: (534, .tup [.int (9), .int (0), .bool true]) :: (533, .tup [.str [116, 114, 97, 105, 108, 105, 110, 103], .bool false, .bool false, .bool false]) :: (532, .inst 0 531) :: (531, .dct [(0, .str [105, 110, 100, 101, 120]), (2, .int (4)), (3, .none), (4, .str [105, 110, 100, 101, 120]), (5, .str [116, 114, 97, 105, 108, 105, 110, 103]), (6, .bool false), (7, .bool false), (8, .bool false), (9, .int (9)), (10, .int (0)), (11, .bool true)]) :: (530, .tup [.str [97, 108, 112, 104, 97, 110, 117, 109, 101, 114, 105, 99], .int (5), .none, .str [100, 105, 115, 112, 108, 97, 121], .ref 513, .ref 529]) :: (529, .tup [.int (0), .int (0), .bool false]) :: (528, .tup [.str [97, 108, 112, 104, 97, 110, 117, 109, 101, 114, 105, 99], .int (5), .none, .str [100, 105, 115, 112, 108, 97, 121], .ref 526, .ref 527]) :: (527, .tup [.int (0), .int (0), .bool false]) :: (526, .tup [.str [116, 114, 97, 105, 108, 105, 110, 103], .bool false, .bool false, .bool false]) :: (525, .inst 0 524) :: (524, .dct [(0, .str [97, 108, 112, 104, 97, 110, 117, 109, 101, 114, 105, 99]), (2, .int (5)), (3, .none), (4, .str [100, 105, 115, 112, 108, 97, 121]), (5, .str [116, 114, 97, 105, 108, 105, 110, 103]), (6, .bool false), (7, .bool false), (8, .bool false), (9, .int (0)), (10, .int (0)), (11, .bool false)]) :: (522, .inst 0 521) :: (521, .dct [(0, .str [103, 114, 111, 117, 112]), (2, .int (5)), (3, .none), (4, .str [100, 105, 115, 112, 108, 97, 121]), (5, .str [116, 114, 97, 105, 108, 105, 110, 103]), (6, .bool false), (7, .bool false), (8, .bool false), (9, .int (0)), (10, .int (0)), (11, .bool false)]) :: (520, .tup [.str [103, 114, 111, 117, 112], .int (5), .none, .str [100, 105, 115, 112, 108, 97, 121], .ref 513, .ref 519]) :: (519, .tup [.int (0), .int (0), .bool false]) :: (518, .tup [.str [103, 114, 111, 117, 112], .int (5), .none, .str [100, 105, 115, 112, 108, 97, 121], .ref 516, .ref 517]) :: (517, .tup [.int (0), .int (0), .bool false]) :: (516, .tup [.str [116, 114, 97, 105, 108, 105, 110, 103], .bool false, .bool false, .bool false]) :: (515, .inst 0 514) :: (514, .dct [(0, .str [103, 114, 111, 117, 112]), (2, .int (5)), (3, .none), (4, .str [100, 105, 115, 112, 108, 97, 121]), (5, .str [116, 114, 97, 105, 108, 105, 110, 103]), (6, .bool false), (7, .bool false), (8, .bool false), (9, .int (0)), (10, .int (0)), (11, .bool false)]) :: (513, .tup [.str [116, 114, 97, 105, 108, 105, 110, 103], .bool false, .bool false, .bool false]) :: led0
theorem preO5 (D : Int) (neg : Bool) : (run (tbX D neg) (190 + 1 + 4)).exs ⟨RO.locs, RO.glbs, 13, []⟩ (locS 5) (hdO RO.body 4) ⟨led0, nxt0⟩ = .next locO5 ⟨ledO5, 543⟩ := by kernel_rfl
noncomputable abbrev PO5 (D : Int) (neg : Bool) : Prop := outT (clOut nxt0 ((run (tbX D neg) (190 + 1)).exs ⟨RO.locs, RO.glbs, 13, []⟩ locO5 (tlO RO.body 4) ⟨ledO5, 543⟩)) = some led0
theorem pO5_1 (neg : Bool) : PO5 1 neg := by
  cases neg with
  | false => kernel_rfl
  | true => kernel_rfl
theorem pO5_2 (neg : Bool) : PO5 2 neg := by
  cases neg with
  | false => kernel_rfl
  | true => kernel_rfl
theorem pO5_3 (neg : Bool) : PO5 3 neg := by
  cases neg with
  | false => kernel_rfl
  | true => kernel_rfl
theorem pO5_4 (neg : Bool) : PO5 4 neg := by
  cases neg with
  | false => kernel_rfl
  | true => kernel_rfl
theorem pO5_5 (neg : Bool) : PO5 5 neg := by
  cases neg with
  | false => kernel_rfl
  | true => kernel_rfl
theorem pO5_6 (neg : Bool) : PO5 6 neg := by
  cases neg with
  | false => kernel_rfl
  | true => kernel_rfl
theorem pO5_7 (neg : Bool) : PO5 7 neg := by
  cases neg with
  | false => kernel_rfl
  | true => kernel_rfl
theorem pO5_8 (neg : Bool) : PO5 8 neg := by
  cases neg with
  | false => kernel_rfl
  | true => kernel_rfl
theorem pO5_9 (neg : Bool) : PO5 9 neg := by
  cases neg with
  | false => kernel_rfl
  | true => kernel_rfl
theorem pO5_10 (neg : Bool) : PO5 10 neg := by
  cases neg with
  | false => kernel_rfl
  | true => kernel_rfl
theorem pO5_11 (neg : Bool) : PO5 11 neg := by
  cases neg with
  | false => kernel_rfl
  | true => kernel_rfl
theorem pO5_12 (neg : Bool) : PO5 12 neg := by
  cases neg with
  | false => kernel_rfl
  | true => kernel_rfl
theorem pO5_13 (neg : Bool) : PO5 13 neg := by
  cases neg with
  | false => kernel_rfl
  | true => kernel_rfl
theorem pO5_14 (neg : Bool) : PO5 14 neg := by
  cases neg with
  | false => kernel_rfl
  | true => kernel_rfl
theorem pO5_15 (neg : Bool) : PO5 15 neg := by
  cases neg with
  | false => kernel_rfl
  | true => kernel_rfl
theorem pO5_16 (neg : Bool) : PO5 16 neg := by
  cases neg with
  | false => kernel_rfl
  | true => kernel_rfl
theorem pO5_17 (neg : Bool) : PO5 17 neg := by
  cases neg with
  | false => kernel_rfl
  | true => kernel_rfl
theorem pO5_18 (neg : Bool) : PO5 18 neg := by
  cases neg with
  | false => kernel_rfl
  | true => kernel_rfl
theorem pO5_19 (neg : Bool) : PO5 19 neg := by
  cases neg with
  | false => kernel_rfl
  | true => kernel_rfl
noncomputable def locO6 : Loc := [(34, .sym 0), (10, .int (6)), (12, .ref 513)]
noncomputable def ledO6 : Led := (541, .inst 0 540) :: (540, .dct [(0, .str [105, 110, 100, 101, 120]), (2, .int (4)), (3, .none), (4, .str [105, 110, 100, 101, 120]), (5, .str [116, 114, 97, 105, 108, 105, 110, 103]), (6, .bool false), (7, .bool false), (8, .bool false), (9, .int (9)), (10, .int (0)), (11, .bool true)]) :: (539, .inst 0 538) :: (538, .dct [(0, .str [105, 110, 100, 101, 120]), (2, .int (4)), (3, .none), (4, .str [105, 110, 100, 101, 120]), (5, .str [116, 114, 97, 105, 108, 105, 110, 103]), (6, .bool false), (7, .bool false), (8, .bool false), (9, .int (9)), (10, .int (0)), (11, .bool true)]) :: (537, .tup [.str [105, 110, 100, 101, 120], .int (4), .none, .str [105, 110, 100, 101, 120], .ref 513, .ref 536]) :: (536, .tup [.int (9), .int (0), .bool true]) :: (535, .tup [.str [105, 110, 100, 101, 120], .int (4), .none, .str [105, 110, 100, 101, 120], .ref 533, .ref 534]) :: (534, .tup [.int (9), .int (0), .bool true]) :: (533, .tup [.str [116, 114, 97, 105, 108, 105, 110, 103], .bool false, .bool false, .bool false]) :: (532, .inst 0 531) :: (531, .dct [(0, .str [105, 110, 100, 101, 120]), (2, .int (4)), (3, .none), (4, .str [105, 110, 100, 101, 120]), (5, .str [116, 114, 97, 105, 108, 105, 110, 103]), (6, .bool false), (7, .bool false), (8, .bool false), (9, .int (9)), (10, .int (0)), (11, .bool true)]) :: (530, .tup [.str [97, 108, 112, 104, 97, 110, 117, 109, 101, 114, 105, 99], .int (6), .none, .str [100, 105, 115, 112, 108, 97, 121], .ref 513, .ref 529]) :: (529, .tup [.int (0), .int (0), .bool false]) :: (528, .tup [.str [97, 108, 112, 104, 97, 110, 117, 109, 101, 114, 105, 99], .int (6), .none, .str [100, 105, 115, 112, 108, 97, 121], .ref 526, .ref 527]) :: (527, .tup [.int (0), .int (0), .bool false]) :: (526, .tup [.str [116, 114, 97, 105, 108, 105, 110, 103], .bool false, .bool false, .bool false]) :: (525, .inst 0 524) :: (524, .dct [(0, .str [97, 108, 112, 104, 97, 110, 117, 109, 101, 114, 105, 99]), (2, .int (6)), (3, .none), (4, .str [100, 105, 115, 112, 108, 97, 121]), (5, .str [116, 114, 97, 105, 108, 105, 110, 103]), (6, .bool false), (7, .bool false), (8, .bool false), (9, .int (0)), (10, .int (0)), (11, .bool false)]) :: (522, .inst 0 521) :: (521, .dct [(0, .str [103, 114, 111, 117, 112]), (2, .int (6)), (3, .none), (4, .str [100, 105, 115, 112, 108, 97, 121]), (5, .str [116, 114, 97, 105, 108, 105, 110, 103]), (6, .bool false), (7, .bool false), (8, .bool false), (9, .int (0)), (10, .int (0)), (11, .bool false)]) :: (520, .tup [.str [103, 114, 111, 117, 112], .int (6), .none, .str [100, 105, 115, 112, 108, 97, 121], .ref 513, .ref 519]) :: (519, .tup [.int (0), .int (0), .bool false]) :: (518, .tup [.str [103, 114, 111, 117, 112], .int (6), .none, .str [100, 105, 115, 112, 108, 97, 121], .ref 516, .ref 517]) :: (517, .tup [.int (0), .int (0), .bool false]) :: (516, .tup [.str [116, 114, 97, 105, 108, 105, 110, 103], .bool false, .bool false, .bool false]) :: (515, .inst 0 514) :: (514, .dct [(0, .str [103, 114, 111, 117, 112]), (2, .int (6)), (3, .none), (4, .str [100, 105, 115, 112, 108, 97, 121]), (5, .str [116, 114, 97, 105, 108, 105, 110, 103]), (6, .bool false), (7, .bool false), (8, .bool false), (9, .int (0)), (10, .int (0)), (11, .bool false)]) :: (513, .tup [.str [116, 114, 97, 105, 108, 105, 110, 103], .bool false, .bool false, .bool false]) :: led0
theorem preO6 (D : Int) (neg : Bool) : (run (tbX D neg) (190 + 1 + 4)).exs ⟨RO.locs, RO.glbs, 13, []⟩ (locS 6) (hdO RO.body 4) ⟨led0, nxt0⟩ = .next locO6 ⟨ledO6, 543⟩ := by kernel_rfl
noncomputable abbrev PO6 (D : Int) (neg : Bool) : Prop := outT (clOut nxt0 ((run (tbX D neg) (190 + 1)).exs ⟨RO.locs, RO.glbs, 13, []⟩ locO6 (tlO RO.body 4) ⟨ledO6, 543⟩)) = some led0
theorem pO6_1 (neg : Bool) : PO6 1 neg := by
  cases neg with
  | false => kernel_rfl
  | true => kernel_rfl
theorem pO6_2 (neg : Bool) : PO6 2 neg := by
  cases neg with
  | false => kernel_rfl
  | true => kernel_rfl
theorem pO6_3 (neg : Bool) : PO6 3 neg := by
  cases neg with
  | false => kernel_rfl
  | true => kernel_rfl
theorem pO6_4 (neg : Bool) : PO6 4 neg := by
  cases neg with
  | false => kernel_rfl
  | true => kernel_rfl
theorem pO6_5 (neg : Bool) : PO6 5 neg := by
  cases neg with
  | false => kernel_rfl
  | true => kernel_rfl
theorem pO6_6 (neg : Bool) : PO6 6 neg := by
  cases neg with
  | false => kernel_rfl
  | true => kernel_rfl
theorem pO6_7 (neg : Bool) : PO6 7 neg := by
  cases neg with
  | false => kernel_rfl
  | true => kernel_rfl
theorem pO6_8 (neg : Bool) : PO6 8 neg := by
  cases neg with
  | false => kernel_rfl
  | true => kernel_rfl
theorem pO6_9 (neg : Bool) : PO6 9 neg := by
  cases neg with
  | false => kernel_rfl
  | true => kernel_rfl
theorem pO6_10 (neg : Bool) : PO6 10 neg := by
  cases neg with
  | false => kernel_rfl
  | true => kernel_rfl
theorem pO6_11 (neg : Bool) : PO6 11 neg := by
  cases neg with
  | false => kernel_rfl
  | true => kernel_rfl
theorem pO6_12 (neg : Bool) : PO6 12 neg := by
  cases neg with
  | false => kernel_rfl
  | true => kernel_rfl
theorem pO6_13 (neg : Bool) : PO6 13 neg := by
  cases neg with
  | false => kernel_rfl
  | true => kernel_rfl
theorem pO6_14 (neg : Bool) : PO6 14 neg := by
  cases neg with
  | false => kernel_rfl
  | true => kernel_rfl
theorem pO6_15 (neg : Bool) : PO6 15 neg := by
  cases neg with
  | false => kernel_rfl
  | true => kernel_rfl
theorem pO6_16 (neg : Bool) : PO6 16 neg := by
  cases neg with
  | false => kernel_rfl
  | true => kernel_rfl
theorem pO6_17 (neg : Bool) : PO6 17 neg := by
  cases neg with
  | false => kernel_rfl
  | true => kernel_rfl
theorem pO6_18 (neg : Bool) : PO6 18 neg := by
  cases neg with
  | false => kernel_rfl
  | true => kernel_rfl
theorem pO6_19 (neg : Bool) : PO6 19 neg := by
  cases neg with
  | false => kernel_rfl
  | true => kernel_rfl
noncomputable def locO7 : Loc := [(34, .sym 0), (10, .int (7)), (12, .ref 513)]
noncomputable def ledO7 : Led := (541, .inst 0 540) :: (540, .dct [(0, .str [105, 110, 100, 101, 120]), (2, .int (4)), (3, .none), (4, .str [105, 110, 100, 101, 120]), (5, .str [116, 114, 97, 105, 108, 105, 110, 103]), (6, .bool false), (7, .bool false), (8, .bool false), (9, .int (9)), (10, .int (0)), (11, .bool true)]) :: (539, .inst 0 538) :: (538, .dct [(0, .str [105, 110, 100, 101, 120]), (2, .int (4)), (3, .none), (4, .str [105, 110, 100, 101, 120]), (5, .str [116, 114, 97, 105, 108, 105, 110, 103]), (6, .bool false), (7, .bool false), (8, .bool false), (9, .int (9)), (10, .int (0)), (11, .bool true)]) :: (537, .tup [.str [105, 110, 100, 101, 120], .int (4), .none, .str [105, 110, 100, 101, 120], .ref 513, .ref 536]) :: (536, .tup [.int (9), .int (0), .bool true]) :: (535, .tup [.str [105, 110, 100, 101, 120], .int (4), .none, .str [105, 110, 100, 101, 120], .ref 533, .ref 534]) :: (534, .tup [.int (9), .int (0), .bool true]) :: (533, .tup [.str [116, 114, 97, 105, 108, 105, 110, 103], .bool false, .bool false, .bool false]) :: (532, .inst 0 531) :: (531, .dct [(0, .str [105, 110, 100, 101, 120]), (2, .int (4)), (3, .none), (4, .str [105, 110, 100, 101, 120]), (5, .str [116, 114, 97, 105, 108, 105, 110, 103]), (6, .bool false), (7, .bool false), (8, .bool false), (9, .int (9)), (10, .int (0)), (11, .bool true)]) :: (530, .tup [.str [97, 108, 112, 104, 97, 110, 117, 109, 101, 114, 105, 99], .int (7), .none, .str [100, 105, 115, 112, 108, 97, 121], .ref 513, .ref 529]) :: (529, .tup [.int (0), .int (0), .bool false]) :: (528, .tup [.str [97, 108, 112, 104, 97, 110, 117, 109, 101, 114, 105, 99], .int (7), .none, .str [100, 105, 115, 112, 108, 97, 121], .ref 526, .ref 527]) :: (527, .tup [.int (0), .int (0), .bool false]) :: (526, .tup [.str [116, 114, 97, 105, 108, 105, 110, 103], .bool false, .bool false, .bool false]) :: (525, .inst 0 524) :: (524, .dct [(0, .str [97, 108, 112, 104, 97, 110, 117, 109, 101, 114, 105, 99]), (2, .int (7)), (3, .none), (4, .str [100, 105, 115, 112, 108, 97, 121]), (5, .str [116, 114, 97, 105, 108, 105, 110, 103]), (6, .bool false), (7, .bool false), (8, .bool false), (9, .int (0)), (10, .int (0)), (11, .bool false)]) :: (522, .inst 0 521) :: (521, .dct [(0, .str [103, 114, 111, 117, 112]), (2, .int (7)), (3, .none), (4, .str [100, 105, 115, 112, 108, 97, 121]), (5, .str [116, 114, 97, 105, 108, 105, 110, 103]), (6, .bool false), (7, .bool false), (8, .bool false), (9, .int (0)), (10, .int (0)), (11, .bool false)]) :: (520, .tup [.str [103, 114, 111, 117, 112], .int (7), .none, .str [100, 105, 115, 112, 108, 97, 121], .ref 513, .ref 519]) :: (519, .tup [.int (0), .int (0), .bool false]) :: (518, .tup [.str [103, 114, 111, 117, 112], .int (7), .none, .str [100, 105, 115, 112, 108, 97, 121], .ref 516, .ref 517]) :: (517, .tup [.int (0), .int (0), .bool false]) :: (516, .tup [.str [116, 114, 97, 105, 108, 105, 110, 103], .bool false, .bool false, .bool false]) :: (515, .inst 0 514) :: (514, .dct [(0, .str [103, 114, 111, 117, 112]), (2, .int (7)), (3, .none), (4, .str [100, 105, 115, 112, 108, 97, 121]), (5, .str [116, 114, 97, 105, 108, 105, 110, 103]), (6, .bool false), (7, .bool false), (8, .bool false), (9, .int (0)), (10, .int (0)), (11, .bool false)]) :: (513, .tup [.str [116, 114, 97, 105, 108, 105, 110, 103], .bool false, .bool false, .bool false]) :: led0
theorem preO7 (D : Int) (neg : Bool) : (run (tbX D neg) (190 + 1 + 4)).exs ⟨RO.locs, RO.glbs, 13, []⟩ (locS 7) (hdO RO.body 4) ⟨led0, nxt0⟩ = .next locO7 ⟨ledO7, 543⟩ := by kernel_rfl
noncomputable abbrev PO7 (D : Int) (neg : Bool) : Prop := outT (clOut nxt0 ((run (tbX D neg) (190 + 1)).exs ⟨RO.locs, RO.glbs, 13, []⟩ locO7 (tlO RO.body 4) ⟨ledO7, 543⟩)) = some led0
theorem pO7_1 (neg : Bool) : PO7 1 neg := by
  cases neg with
  | false => kernel_rfl
  | true => kernel_rfl
theorem pO7_2 (neg : Bool) : PO7 2 neg := by
  cases neg with
  | false => kernel_rfl
  | true => kernel_rfl
theorem pO7_3 (neg : Bool) : PO7 3 neg := by
  cases neg with
  | false => kernel_rfl
  | true => kernel_rfl
theorem pO7_4 (neg : Bool) : PO7 4 neg := by
  cases neg with
  | false => kernel_rfl
  | true => kernel_rfl
theorem pO7_5 (neg : Bool) : PO7 5 neg := by
  cases neg with
  | false => kernel_rfl
  | true => kernel_rfl
theorem pO7_6 (neg : Bool) : PO7 6 neg := by
  cases neg with
  | false => kernel_rfl
  | true => kernel_rfl
theorem pO7_7 (neg : Bool) : PO7 7 neg := by
  cases neg with
  | false => kernel_rfl
  | true => kernel_rfl
theorem pO7_8 (neg : Bool) : PO7 8 neg := by
  cases neg with
  | false => kernel_rfl
  | true => kernel_rfl
theorem pO7_9 (neg : Bool) : PO7 9 neg := by
  cases neg with
  | false => kernel_rfl
  | true => kernel_rfl
theorem pO7_10 (neg : Bool) : PO7 10 neg := by
  cases neg with
  | false => kernel_rfl
  | true => kernel_rfl
theorem pO7_11 (neg : Bool) : PO7 11 neg := by
  cases neg with
  | false => kernel_rfl
  | true => kernel_rfl
theorem pO7_12 (neg : Bool) : PO7 12 neg := by
  cases neg with
  | false => kernel_rfl
  | true => kernel_rfl
theorem pO7_13 (neg : Bool) : PO7 13 neg := by
  cases neg with
  | false => kernel_rfl
  | true => kernel_rfl
theorem pO7_14 (neg : Bool) : PO7 14 neg := by
  cases neg with
  | false => kernel_rfl
  | true => kernel_rfl
theorem pO7_15 (neg : Bool) : PO7 15 neg := by
  cases neg with
  | false => kernel_rfl
  | true => kernel_rfl
theorem pO7_16 (neg : Bool) : PO7 16 neg := by
  cases neg with
  | false => kernel_rfl
  | true => kernel_rfl
theorem pO7_17 (neg : Bool) : PO7 17 neg := by
  cases neg with
  | false => kernel_rfl
  | true => kernel_rfl
theorem pO7_18 (neg : Bool) : PO7 18 neg := by
  cases neg with
  | false => kernel_rfl
  | true => kernel_rfl
theorem pO7_19 (neg : Bool) : PO7 19 neg := by
  cases neg with
  | false => kernel_rfl
  | true => kernel_rfl
noncomputable def locO8 : Loc := [(34, .sym 0), (10, .int (8)), (12, .ref 513)]
noncomputable def ledO8 : Led := (541, .inst 0 540) :: (540, .dct [(0, .str [105, 110, 100, 101, 120]), (2, .int (4)), (3, .none), (4, .str [105, 110, 100, 101, 120]), (5, .str [116, 114, 97, 105, 108, 105, 110, 103]), (6, .bool false), (7, .bool false), (8, .bool false), (9, .int (9)), (10, .int (0)), (11, .bool true)]) :: (539, .inst 0 538) :: (538, .dct [(0, .str [105, 110, 100, 101, 120]), (2, .int (4)), (3, .none), (4, .str [105, 110, 100, 101, 120]), (5, .str [116, 114, 97, 105, 108, 105, 110, 103]), (6, .bool false), (7, .bool false), (8, .bool false), (9, .int (9)), (10, .int (0)), (11, .bool true)]) :: (537, .tup [.str [105, 110, 100, 101, 120], .int (4), .none, .str [105, 110, 100, 101, 120], .ref 513, .ref 536]) :: (536, .tup [.int (9), .int (0), .bool true]) :: (535, .tup [.str [105, 110, 100, 101, 120], .int (4), .none, .str [105, 110, 100, 101, 120], .ref 533, .ref 534]) :: (534, .tup [.int (9), .int (0), .bool true]) :: (533, .tup [.str [116, 114, 97, 105, 108, 105, 110, 103], .bool false, .bool false, .bool false]) :: (532, .inst 0 531) :: (531, .dct [(0, .str [105, 110, 100, 101, 120]), (2, .int (4)), (3, .none), (4, .str [105, 110, 100, 101, 120]), (5, .str [116, 114, 97, 105, 108, 105, 110, 103]), (6, .bool false), (7, .bool false), (8, .bool false), (9, .int (9)), (10, .int (0)), (11, .bool true)]) :: (530, .tup [.str [97, 108, 112, 104, 97, 110, 117, 109, 101, 114, 105, 99], .int (8), .none, .str [100, 105, 115, 112, 108, 97, 121], .ref 513, .ref 529]) :: (529, .tup [.int (0), .int (0), .bool false]) :: (528, .tup [.str [97, 108, 112, 104, 97, 110, 117, 109, 101, 114, 105, 99], .int (8), .none, .str [100, 105, 115, 112, 108, 97, 121], .ref 526, .ref 527]) :: (527, .tup [.int (0), .int (0), .bool false]) :: (526, .tup [.str [116, 114, 97, 105, 108, 105, 110, 103], .bool false, .bool false, .bool false]) :: (525, .inst 0 524) :: (524, .dct [(0, .str [97, 108, 112, 104, 97, 110, 117, 109, 101, 114, 105, 99]), (2, .int (8)), (3, .none), (4, .str [100, 105, 115, 112, 108, 97, 121]), (5, .str [116, 114, 97, 105, 108, 105, 110, 103]), (6, .bool false), (7, .bool false), (8, .bool false), (9, .int (0)), (10, .int (0)), (11, .bool false)]) :: (522, .inst 0 521) :: (521, .dct [(0, .str [103, 114, 111, 117, 112]), (2, .int (8)), (3, .none), (4, .str [100, 105, 115, 112, 108, 97, 121]), (5, .str [116, 114, 97, 105, 108, 105, 110, 103]), (6, .bool false), (7, .bool false), (8, .bool false), (9, .int (0)), (10, .int (0)), (11, .bool false)]) :: (520, .tup [.str [103, 114, 111, 117, 112], .int (8), .none, .str [100, 105, 115, 112, 108, 97, 121], .ref 513, .ref 519]) :: (519, .tup [.int (0), .int (0), .bool false]) :: (518, .tup [.str [103, 114, 111, 117, 112], .int (8), .none, .str [100, 105, 115, 112, 108, 97, 121], .ref 516, .ref 517]) :: (517, .tup [.int (0), .int (0), .bool false]) :: (516, .tup [.str [116, 114, 97, 105, 108, 105, 110, 103], .bool false, .bool false, .bool false]) :: (515, .inst 0 514) :: (514, .dct [(0, .str [103, 114, 111, 117, 112]), (2, .int (8)), (3, .none), (4, .str [100, 105, 115, 112, 108, 97, 121]), (5, .str [116, 114, 97, 105, 108, 105, 110, 103]), (6, .bool false), (7, .bool false), (8, .bool false), (9, .int (0)), (10, .int (0)), (11, .bool false)]) :: (513, .tup [.str [116, 114, 97, 105, 108, 105, 110, 103], .bool false, .bool false, .bool false]) :: led0
theorem preO8 (D : Int) (neg : Bool) : (run (tbX D neg) (190 + 1 + 4)).exs ⟨RO.locs, RO.glbs, 13, []⟩ (locS 8) (hdO RO.body 4) ⟨led0, nxt0⟩ = .next locO8 ⟨ledO8, 543⟩ := by kernel_rfl
noncomputable abbrev PO8 (D : Int) (neg : Bool) : Prop := outT (clOut nxt0 ((run (tbX D neg) (190 + 1)).exs ⟨RO.locs, RO.glbs, 13, []⟩ locO8 (tlO RO.body 4) ⟨ledO8, 543⟩)) = some led0
theorem pO8_1 (neg : Bool) : PO8 1 neg := by
  cases neg with
  | false => kernel_rfl
  | true => kernel_rfl
theorem pO8_2 (neg : Bool) : PO8 2 neg := by
  cases neg with
  | false => kernel_rfl
  | true => kernel_rfl
theorem pO8_3 (neg : Bool) : PO8 3 neg := by
  cases neg with
  | false => kernel_rfl
  | true => kernel_rfl
theorem pO8_4 (neg : Bool) : PO8 4 neg := by
  cases neg with
  | false => kernel_rfl
  | true => kernel_rfl
theorem pO8_5 (neg : Bool) : PO8 5 neg := by
  cases neg with
  | false => kernel_rfl
  | true => kernel_rfl
theorem pO8_6 (neg : Bool) : PO8 6 neg := by
  cases neg with
  | false => kernel_rfl
  | true => kernel_rfl
theorem pO8_7 (neg : Bool) : PO8 7 neg := by
  cases neg with
  | false => kernel_rfl
  | true => kernel_rfl
theorem pO8_8 (neg : Bool) : PO8 8 neg := by
  cases neg with
  | false => kernel_rfl
  | true => kernel_rfl
theorem pO8_9 (neg : Bool) : PO8 9 neg := by
  cases neg with
  | false => kernel_rfl
  | true => kernel_rfl
theorem pO8_10 (neg : Bool) : PO8 10 neg := by
  cases neg with
  | false => kernel_rfl
  | true => kernel_rfl
theorem pO8_11 (neg : Bool) : PO8 11 neg := by
  cases neg with
  | false => kernel_rfl
  | true => kernel_rfl
theorem pO8_12 (neg : Bool) : PO8 12 neg := by
  cases neg with
  | false => kernel_rfl
  | true => kernel_rfl
theorem pO8_13 (neg : Bool) : PO8 13 neg := by
  cases neg with
  | false => kernel_rfl
  | true => kernel_rfl
theorem pO8_14 (neg : Bool) : PO8 14 neg := by
  cases neg with
  | false => kernel_rfl
  | true => kernel_rfl
theorem pO8_15 (neg : Bool) : PO8 15 neg := by
  cases neg with
  | false => kernel_rfl
  | true => kernel_rfl
theorem pO8_16 (neg : Bool) : PO8 16 neg := by
  cases neg with
  | false => kernel_rfl
  | true => kernel_rfl
theorem pO8_17 (neg : Bool) : PO8 17 neg := by
  cases neg with
  | false => kernel_rfl
  | true => kernel_rfl
theorem pO8_18 (neg : Bool) : PO8 18 neg := by
  cases neg with
  | false => kernel_rfl
  | true => kernel_rfl
theorem pO8_19 (neg : Bool) : PO8 19 neg := by
  cases neg with
  | false => kernel_rfl
  | true => kernel_rfl
noncomputable def L19 : List Int := [1, 2, 3, 4, 5, 6, 7, 8, 9, 10, 11, 12, 13, 14, 15, 16, 17, 18, 19]
noncomputable abbrev OthOk (neg : Bool) (sc D : Int) : Prop := outT ((run (tbX D neg) (190 + 1 + 4 + 1)).cl 13 f_law_others_right [.sym 0, .int sc] ⟨led0, nxt0⟩) = some led0
theorem q0_1 (neg : Bool) : OthOk neg 0 1 := oth_gen RO_at (RO_zip 0) (preO0 1 neg) RO_tl (pO0_1 neg)
theorem q0_2 (neg : Bool) : OthOk neg 0 2 := oth_gen RO_at (RO_zip 0) (preO0 2 neg) RO_tl (pO0_2 neg)
theorem q0_3 (neg : Bool) : OthOk neg 0 3 := oth_gen RO_at (RO_zip 0) (preO0 3 neg) RO_tl (pO0_3 neg)
theorem q0_4 (neg : Bool) : OthOk neg 0 4 := oth_gen RO_at (RO_zip 0) (preO0 4 neg) RO_tl (pO0_4 neg)
theorem q0_5 (neg : Bool) : OthOk neg 0 5 := oth_gen RO_at (RO_zip 0) (preO0 5 neg) RO_tl (pO0_5 neg)
theorem q0_6 (neg : Bool) : OthOk neg 0 6 := oth_gen RO_at (RO_zip 0) (preO0 6 neg) RO_tl (pO0_6 neg)
theorem q0_7 (neg : Bool) : OthOk neg 0 7 := oth_gen RO_at (RO_zip 0) (preO0 7 neg) RO_tl (pO0_7 neg)
theorem q0_8 (neg : Bool) : OthOk neg 0 8 := oth_gen RO_at (RO_zip 0) (preO0 8 neg) RO_tl (pO0_8 neg)
theorem q0_9 (neg : Bool) : OthOk neg 0 9 := oth_gen RO_at (RO_zip 0) (preO0 9 neg) RO_tl (pO0_9 neg)
theorem q0_10 (neg : Bool) : OthOk neg 0 10 := oth_gen RO_at (RO_zip 0) (preO0 10 neg) RO_tl (pO0_10 neg)
theorem q0_11 (neg : Bool) : OthOk neg 0 11 := oth_gen RO_at (RO_zip 0) (preO0 11 neg) RO_tl (pO0_11 neg)
theorem q0_12 (neg : Bool) : OthOk neg 0 12 := oth_gen RO_at (RO_zip 0) (preO0 12 neg) RO_tl (pO0_12 neg)
theorem q0_13 (neg : Bool) : OthOk neg 0 13 := oth_gen RO_at (RO_zip 0) (preO0 13 neg) RO_tl (pO0_13 neg)
theorem q0_14 (neg : Bool) : OthOk neg 0 14 := oth_gen RO_at (RO_zip 0) (preO0 14 neg) RO_tl (pO0_14 neg)
theorem q0_15 (neg : Bool) : OthOk neg 0 15 := oth_gen RO_at (RO_zip 0) (preO0 15 neg) RO_tl (pO0_15 neg)
theorem q0_16 (neg : Bool) : OthOk neg 0 16 := oth_gen RO_at (RO_zip 0) (preO0 16 neg) RO_tl (pO0_16 neg)
theorem q0_17 (neg : Bool) : OthOk neg 0 17 := oth_gen RO_at (RO_zip 0) (preO0 17 neg) RO_tl (pO0_17 neg)
theorem q0_18 (neg : Bool) : OthOk neg 0 18 := oth_gen RO_at (RO_zip 0) (preO0 18 neg) RO_tl (pO0_18 neg)
theorem q0_19 (neg : Bool) : OthOk neg 0 19 := oth_gen RO_at (RO_zip 0) (preO0 19 neg) RO_tl (pO0_19 neg)
theorem oth0 (neg : Bool) : ∀ D ∈ L19, OthOk neg 0 D := by
  unfold L19
  refine List.forall_mem_cons.mpr ⟨q0_1 neg, ?_⟩
  refine List.forall_mem_cons.mpr ⟨q0_2 neg, ?_⟩
  refine List.forall_mem_cons.mpr ⟨q0_3 neg, ?_⟩
  refine List.forall_mem_cons.mpr ⟨q0_4 neg, ?_⟩
  refine List.forall_mem_cons.mpr ⟨q0_5 neg, ?_⟩
  refine List.forall_mem_cons.mpr ⟨q0_6 neg, ?_⟩
  refine List.forall_mem_cons.mpr ⟨q0_7 neg, ?_⟩
  refine List.forall_mem_cons.mpr ⟨q0_8 neg, ?_⟩
  refine List.forall_mem_cons.mpr ⟨q0_9 neg, ?_⟩
  refine List.forall_mem_cons.mpr ⟨q0_10 neg, ?_⟩
  refine List.forall_mem_cons.mpr ⟨q0_11 neg, ?_⟩
  refine List.forall_mem_cons.mpr ⟨q0_12 neg, ?_⟩
  refine List.forall_mem_cons.mpr ⟨q0_13 neg, ?_⟩
  refine List.forall_mem_cons.mpr ⟨q0_14 neg, ?_⟩
  refine List.forall_mem_cons.mpr ⟨q0_15 neg, ?_⟩
  refine List.forall_mem_cons.mpr ⟨q0_16 neg, ?_⟩
  refine List.forall_mem_cons.mpr ⟨q0_17 neg, ?_⟩
  refine List.forall_mem_cons.mpr ⟨q0_18 neg, ?_⟩
  refine List.forall_mem_cons.mpr ⟨q0_19 neg, ?_⟩
  exact fun _ h => nomatch h
theorem q1_1 (neg : Bool) : OthOk neg 1 1 := oth_gen RO_at (RO_zip 1) (preO1 1 neg) RO_tl (pO1_1 neg)
theorem q1_2 (neg : Bool) : OthOk neg 1 2 := oth_gen RO_at (RO_zip 1) (preO1 2 neg) RO_tl (pO1_2 neg)
theorem q1_3 (neg : Bool) : OthOk neg 1 3 := oth_gen RO_at (RO_zip 1) (preO1 3 neg) RO_tl (pO1_3 neg)
theorem q1_4 (neg : Bool) : OthOk neg 1 4 := oth_gen RO_at (RO_zip 1) (preO1 4 neg) RO_tl (pO1_4 neg)
theorem q1_5 (neg : Bool) : OthOk neg 1 5 := oth_gen RO_at (RO_zip 1) (preO1 5 neg) RO_tl (pO1_5 neg)
theorem q1_6 (neg : Bool) : OthOk neg 1 6 := oth_gen RO_at (RO_zip 1) (preO1 6 neg) RO_tl (pO1_6 neg)
theorem q1_7 (neg : Bool) : OthOk neg 1 7 := oth_gen RO_at (RO_zip 1) (preO1 7 neg) RO_tl (pO1_7 neg)
theorem q1_8 (neg : Bool) : OthOk neg 1 8 := oth_gen RO_at (RO_zip 1) (preO1 8 neg) RO_tl (pO1_8 neg)
theorem q1_9 (neg : Bool) : OthOk neg 1 9 := oth_gen RO_at (RO_zip 1) (preO1 9 neg) RO_tl (pO1_9 neg)
theorem q1_10 (neg : Bool) : OthOk neg 1 10 := oth_gen RO_at (RO_zip 1) (preO1 10 neg) RO_tl (pO1_10 neg)
theorem q1_11 (neg : Bool) : OthOk neg 1 11 := oth_gen RO_at (RO_zip 1) (preO1 11 neg) RO_tl (pO1_11 neg)
theorem q1_12 (neg : Bool) : OthOk neg 1 12 := oth_gen RO_at (RO_zip 1) (preO1 12 neg) RO_tl (pO1_12 neg)
theorem q1_13 (neg : Bool) : OthOk neg 1 13 := oth_gen RO_at (RO_zip 1) (preO1 13 neg) RO_tl (pO1_13 neg)
theorem q1_14 (neg : Bool) : OthOk neg 1 14 := oth_gen RO_at (RO_zip 1) (preO1 14 neg) RO_tl (pO1_14 neg)
theorem q1_15 (neg : Bool) : OthOk neg 1 15 := oth_gen RO_at (RO_zip 1) (preO1 15 neg) RO_tl (pO1_15 neg)
theorem q1_16 (neg : Bool) : OthOk neg 1 16 := oth_gen RO_at (RO_zip 1) (preO1 16 neg) RO_tl (pO1_16 neg)
theorem q1_17 (neg : Bool) : OthOk neg 1 17 := oth_gen RO_at (RO_zip 1) (preO1 17 neg) RO_tl (pO1_17 neg)
theorem q1_18 (neg : Bool) : OthOk neg 1 18 := oth_gen RO_at (RO_zip 1) (preO1 18 neg) RO_tl (pO1_18 neg)
theorem q1_19 (neg : Bool) : OthOk neg 1 19 := oth_gen RO_at (RO_zip 1) (preO1 19 neg) RO_tl (pO1_19 neg)
theorem oth1 (neg : Bool) : ∀ D ∈ L19, OthOk neg 1 D := by
  unfold L19
  refine List.forall_mem_cons.mpr ⟨q1_1 neg, ?_⟩
  refine List.forall_mem_cons.mpr ⟨q1_2 neg, ?_⟩
  refine List.forall_mem_cons.mpr ⟨q1_3 neg, ?_⟩
  refine List.forall_mem_cons.mpr ⟨q1_4 neg, ?_⟩
  refine List.forall_mem_cons.mpr ⟨q1_5 neg, ?_⟩
  refine List.forall_mem_cons.mpr ⟨q1_6 neg, ?_⟩
  refine List.forall_mem_cons.mpr ⟨q1_7 neg, ?_⟩
  refine List.forall_mem_cons.mpr ⟨q1_8 neg, ?_⟩
  refine List.forall_mem_cons.mpr ⟨q1_9 neg, ?_⟩
  refine List.forall_mem_cons.mpr ⟨q1_10 neg, ?_⟩
  refine List.forall_mem_cons.mpr ⟨q1_11 neg, ?_⟩
  refine List.forall_mem_cons.mpr ⟨q1_12 neg, ?_⟩
  refine List.forall_mem_cons.mpr ⟨q1_13 neg, ?_⟩
  refine List.forall_mem_cons.mpr ⟨q1_14 neg, ?_⟩
  refine List.forall_mem_cons.mpr ⟨q1_15 neg, ?_⟩
  refine List.forall_mem_cons.mpr ⟨q1_16 neg, ?_⟩
  refine List.forall_mem_cons.mpr ⟨q1_17 neg, ?_⟩
  refine List.forall_mem_cons.mpr ⟨q1_18 neg, ?_⟩
  refine List.forall_mem_cons.mpr ⟨q1_19 neg, ?_⟩
  exact fun _ h => nomatch h
theorem q2_1 (neg : Bool) : OthOk neg 2 1 := oth_gen RO_at (RO_zip 2) (preO2 1 neg) RO_tl (pO2_1 neg)
theorem q2_2 (neg : Bool) : OthOk neg 2 2 := oth_gen RO_at (RO_zip 2) (preO2 2 neg) RO_tl (pO2_2 neg)
theorem q2_3 (neg : Bool) : OthOk neg 2 3 := oth_gen RO_at (RO_zip 2) (preO2 3 neg) RO_tl (pO2_3 neg)
theorem q2_4 (neg : Bool) : OthOk neg 2 4 := oth_gen RO_at (RO_zip 2) (preO2 4 neg) RO_tl (pO2_4 neg)
theorem q2_5 (neg : Bool) : OthOk neg 2 5 := oth_gen RO_at (RO_zip 2) (preO2 5 neg) RO_tl (pO2_5 neg)
theorem q2_6 (neg : Bool) : OthOk neg 2 6 := oth_gen RO_at (RO_zip 2) (preO2 6 neg) RO_tl (pO2_6 neg)
theorem q2_7 (neg : Bool) : OthOk neg 2 7 := oth_gen RO_at (RO_zip 2) (preO2 7 neg) RO_tl (pO2_7 neg)
theorem q2_8 (neg : Bool) : OthOk neg 2 8 := oth_gen RO_at (RO_zip 2) (preO2 8 neg) RO_tl (pO2_8 neg)
theorem q2_9 (neg : Bool) : OthOk neg 2 9 := oth_gen RO_at (RO_zip 2) (preO2 9 neg) RO_tl (pO2_9 neg)
theorem q2_10 (neg : Bool) : OthOk neg 2 10 := oth_gen RO_at (RO_zip 2) (preO2 10 neg) RO_tl (pO2_10 neg)
theorem q2_11 (neg : Bool) : OthOk neg 2 11 := oth_gen RO_at (RO_zip 2) (preO2 11 neg) RO_tl (pO2_11 neg)
theorem q2_12 (neg : Bool) : OthOk neg 2 12 := oth_gen RO_at (RO_zip 2) (preO2 12 neg) RO_tl (pO2_12 neg)
theorem q2_13 (neg : Bool) : OthOk neg 2 13 := oth_gen RO_at (RO_zip 2) (preO2 13 neg) RO_tl (pO2_13 neg)
theorem q2_14 (neg : Bool) : OthOk neg 2 14 := oth_gen RO_at (RO_zip 2) (preO2 14 neg) RO_tl (pO2_14 neg)
theorem q2_15 (neg : Bool) : OthOk neg 2 15 := oth_gen RO_at (RO_zip 2) (preO2 15 neg) RO_tl (pO2_15 neg)
theorem q2_16 (neg : Bool) : OthOk neg 2 16 := oth_gen RO_at (RO_zip 2) (preO2 16 neg) RO_tl (pO2_16 neg)
theorem q2_17 (neg : Bool) : OthOk neg 2 17 := oth_gen RO_at (RO_zip 2) (preO2 17 neg) RO_tl (pO2_17 neg)
theorem q2_18 (neg : Bool) : OthOk neg 2 18 := oth_gen RO_at (RO_zip 2) (preO2 18 neg) RO_tl (pO2_18 neg)
theorem q2_19 (neg : Bool) : OthOk neg 2 19 := oth_gen RO_at (RO_zip 2) (preO2 19 neg) RO_tl (pO2_19 neg)
theorem oth2 (neg : Bool) : ∀ D ∈ L19, OthOk neg 2 D := by
  unfold L19
  refine List.forall_mem_cons.mpr ⟨q2_1 neg, ?_⟩
  refine List.forall_mem_cons.mpr ⟨q2_2 neg, ?_⟩
  refine List.forall_mem_cons.mpr ⟨q2_3 neg, ?_⟩
  refine List.forall_mem_cons.mpr ⟨q2_4 neg, ?_⟩
  refine List.forall_mem_cons.mpr ⟨q2_5 neg, ?_⟩
  refine List.forall_mem_cons.mpr ⟨q2_6 neg, ?_⟩
  refine List.forall_mem_cons.mpr ⟨q2_7 neg, ?_⟩
  refine List.forall_mem_cons.mpr ⟨q2_8 neg, ?_⟩
  refine List.forall_mem_cons.mpr ⟨q2_9 neg, ?_⟩
  refine List.forall_mem_cons.mpr ⟨q2_10 neg, ?_⟩
  refine List.forall_mem_cons.mpr ⟨q2_11 neg, ?_⟩
  refine List.forall_mem_cons.mpr ⟨q2_12 neg, ?_⟩
  refine List.forall_mem_cons.mpr ⟨q2_13 neg, ?_⟩
  refine List.forall_mem_cons.mpr ⟨q2_14 neg, ?_⟩
  refine List.forall_mem_cons.mpr ⟨q2_15 neg, ?_⟩
  refine List.forall_mem_cons.mpr ⟨q2_16 neg, ?_⟩
  refine List.forall_mem_cons.mpr ⟨q2_17 neg, ?_⟩
  refine List.forall_mem_cons.mpr ⟨q2_18 neg, ?_⟩
  refine List.forall_mem_cons.mpr ⟨q2_19 neg, ?_⟩
  exact fun _ h => nomatch h
theorem q3_1 (neg : Bool) : OthOk neg 3 1 := oth_gen RO_at (RO_zip 3) (preO3 1 neg) RO_tl (pO3_1 neg)
theorem q3_2 (neg : Bool) : OthOk neg 3 2 := oth_gen RO_at (RO_zip 3) (preO3 2 neg) RO_tl (pO3_2 neg)
theorem q3_3 (neg : Bool) : OthOk neg 3 3 := oth_gen RO_at (RO_zip 3) (preO3 3 neg) RO_tl (pO3_3 neg)
theorem q3_4 (neg : Bool) : OthOk neg 3 4 := oth_gen RO_at (RO_zip 3) (preO3 4 neg) RO_tl (pO3_4 neg)
theorem q3_5 (neg : Bool) : OthOk neg 3 5 := oth_gen RO_at (RO_zip 3) (preO3 5 neg) RO_tl (pO3_5 neg)
theorem q3_6 (neg : Bool) : OthOk neg 3 6 := oth_gen RO_at (RO_zip 3) (preO3 6 neg) RO_tl (pO3_6 neg)
theorem q3_7 (neg : Bool) : OthOk neg 3 7 := oth_gen RO_at (RO_zip 3) (preO3 7 neg) RO_tl (pO3_7 neg)
theorem q3_8 (neg : Bool) : OthOk neg 3 8 := oth_gen RO_at (RO_zip 3) (preO3 8 neg) RO_tl (pO3_8 neg)
theorem q3_9 (neg : Bool) : OthOk neg 3 9 := oth_gen RO_at (RO_zip 3) (preO3 9 neg) RO_tl (pO3_9 neg)
theorem q3_10 (neg : Bool) : OthOk neg 3 10 := oth_gen RO_at (RO_zip 3) (preO3 10 neg) RO_tl (pO3_10 neg)
theorem q3_11 (neg : Bool) : OthOk neg 3 11 := oth_gen RO_at (RO_zip 3) (preO3 11 neg) RO_tl (pO3_11 neg)
theorem q3_12 (neg : Bool) : OthOk neg 3 12 := oth_gen RO_at (RO_zip 3) (preO3 12 neg) RO_tl (pO3_12 neg)
theorem q3_13 (neg : Bool) : OthOk neg 3 13 := oth_gen RO_at (RO_zip 3) (preO3 13 neg) RO_tl (pO3_13 neg)
theorem q3_14 (neg : Bool) : OthOk neg 3 14 := oth_gen RO_at (RO_zip 3) (preO3 14 neg) RO_tl (pO3_14 neg)
theorem q3_15 (neg : Bool) : OthOk neg 3 15 := oth_gen RO_at (RO_zip 3) (preO3 15 neg) RO_tl (pO3_15 neg)
theorem q3_16 (neg : Bool) : OthOk neg 3 16 := oth_gen RO_at (RO_zip 3) (preO3 16 neg) RO_tl (pO3_16 neg)
theorem q3_17 (neg : Bool) : OthOk neg 3 17 := oth_gen RO_at (RO_zip 3) (preO3 17 neg) RO_tl (pO3_17 neg)
theorem q3_18 (neg : Bool) : OthOk neg 3 18 := oth_gen RO_at (RO_zip 3) (preO3 18 neg) RO_tl (pO3_18 neg)
theorem q3_19 (neg : Bool) : OthOk neg 3 19 := oth_gen RO_at (RO_zip 3) (preO3 19 neg) RO_tl (pO3_19 neg)
theorem oth3 (neg : Bool) : ∀ D ∈ L19, OthOk neg 3 D := by
  unfold L19
  refine List.forall_mem_cons.mpr ⟨q3_1 neg, ?_⟩
  refine List.forall_mem_cons.mpr ⟨q3_2 neg, ?_⟩
  refine List.forall_mem_cons.mpr ⟨q3_3 neg, ?_⟩
  refine List.forall_mem_cons.mpr ⟨q3_4 neg, ?_⟩
  refine List.forall_mem_cons.mpr ⟨q3_5 neg, ?_⟩
  refine List.forall_mem_cons.mpr ⟨q3_6 neg, ?_⟩
  refine List.forall_mem_cons.mpr ⟨q3_7 neg, ?_⟩
  refine List.forall_mem_cons.mpr ⟨q3_8 neg, ?_⟩
  refine List.forall_mem_cons.mpr ⟨q3_9 neg, ?_⟩
  refine List.forall_mem_cons.mpr ⟨q3_10 neg, ?_⟩
  refine List.forall_mem_cons.mpr ⟨q3_11 neg, ?_⟩
  refine List.forall_mem_cons.mpr ⟨q3_12 neg, ?_⟩
  refine List.forall_mem_cons.mpr ⟨q3_13 neg, ?_⟩
  refine List.forall_mem_cons.mpr ⟨q3_14 neg, ?_⟩
  refine List.forall_mem_cons.mpr ⟨q3_15 neg, ?_⟩
  refine List.forall_mem_cons.mpr ⟨q3_16 neg, ?_⟩
  refine List.forall_mem_cons.mpr ⟨q3_17 neg, ?_⟩
  refine List.forall_mem_cons.mpr ⟨q3_18 neg, ?_⟩
  refine List.forall_mem_cons.mpr ⟨q3_19 neg, ?_⟩
  exact fun _ h => nomatch h
theorem q4_1 (neg : Bool) : OthOk neg 4 1 := oth_gen RO_at (RO_zip 4) (preO4 1 neg) RO_tl (pO4_1 neg)
theorem q4_2 (neg : Bool) : OthOk neg 4 2 := oth_gen RO_at (RO_zip 4) (preO4 2 neg) RO_tl (pO4_2 neg)
theorem q4_3 (neg : Bool) : OthOk neg 4 3 := oth_gen RO_at (RO_zip 4) (preO4 3 neg) RO_tl (pO4_3 neg)
theorem q4_4 (neg : Bool) : OthOk neg 4 4 := oth_gen RO_at (RO_zip 4) (preO4 4 neg) RO_tl (pO4_4 neg)
theorem q4_5 (neg : Bool) : OthOk neg 4 5 := oth_gen RO_at (RO_zip 4) (preO4 5 neg) RO_tl (pO4_5 neg)
theorem q4_6 (neg : Bool) : OthOk neg 4 6 := oth_gen RO_at (RO_zip 4) (preO4 6 neg) RO_tl (pO4_6 neg)
theorem q4_7 (neg : Bool) : OthOk neg 4 7 := oth_gen RO_at (RO_zip 4) (preO4 7 neg) RO_tl (pO4_7 neg)
theorem q4_8 (neg : Bool) : OthOk neg 4 8 := oth_gen RO_at (RO_zip 4) (preO4 8 neg) RO_tl (pO4_8 neg)
theorem q4_9 (neg : Bool) : OthOk neg 4 9 := oth_gen RO_at (RO_zip 4) (preO4 9 neg) RO_tl (pO4_9 neg)
theorem q4_10 (neg : Bool) : OthOk neg 4 10 := oth_gen RO_at (RO_zip 4) (preO4 10 neg) RO_tl (pO4_10 neg)
theorem q4_11 (neg : Bool) : OthOk neg 4 11 := oth_gen RO_at (RO_zip 4) (preO4 11 neg) RO_tl (pO4_11 neg)
theorem q4_12 (neg : Bool) : OthOk neg 4 12 := oth_gen RO_at (RO_zip 4) (preO4 12 neg) RO_tl (pO4_12 neg)
theorem q4_13 (neg : Bool) : OthOk neg 4 13 := oth_gen RO_at (RO_zip 4) (preO4 13 neg) RO_tl (pO4_13 neg)
theorem q4_14 (neg : Bool) : OthOk neg 4 14 := oth_gen RO_at (RO_zip 4) (preO4 14 neg) RO_tl (pO4_14 neg)
theorem q4_15 (neg : Bool) : OthOk neg 4 15 := oth_gen RO_at (RO_zip 4) (preO4 15 neg) RO_tl (pO4_15 neg)
theorem q4_16 (neg : Bool) : OthOk neg 4 16 := oth_gen RO_at (RO_zip 4) (preO4 16 neg) RO_tl (pO4_16 neg)
theorem q4_17 (neg : Bool) : OthOk neg 4 17 := oth_gen RO_at (RO_zip 4) (preO4 17 neg) RO_tl (pO4_17 neg)
theorem q4_18 (neg : Bool) : OthOk neg 4 18 := oth_gen RO_at (RO_zip 4) (preO4 18 neg) RO_tl (pO4_18 neg)
theorem q4_19 (neg : Bool) : OthOk neg 4 19 := oth_gen RO_at (RO_zip 4) (preO4 19 neg) RO_tl (pO4_19 neg)
theorem oth4 (neg : Bool) : ∀ D ∈ L19, OthOk neg 4 D := by
  unfold L19
  refine List.forall_mem_cons.mpr ⟨q4_1 neg, ?_⟩
  refine List.forall_mem_cons.mpr ⟨q4_2 neg, ?_⟩
  refine List.forall_mem_cons.mpr ⟨q4_3 neg, ?_⟩
  refine List.forall_mem_cons.mpr ⟨q4_4 neg, ?_⟩
  refine List.forall_mem_cons.mpr ⟨q4_5 neg, ?_⟩
  refine List.forall_mem_cons.mpr ⟨q4_6 neg, ?_⟩
  refine List.forall_mem_cons.mpr ⟨q4_7 neg, ?_⟩
  refine List.forall_mem_cons.mpr ⟨q4_8 neg, ?_⟩
  refine List.forall_mem_cons.mpr ⟨q4_9 neg, ?_⟩
  refine List.forall_mem_cons.mpr ⟨q4_10 neg, ?_⟩
  refine List.forall_mem_cons.mpr ⟨q4_11 neg, ?_⟩
  refine List.forall_mem_cons.mpr ⟨q4_12 neg, ?_⟩
  refine List.forall_mem_cons.mpr ⟨q4_13 neg, ?_⟩
  refine List.forall_mem_cons.mpr ⟨q4_14 neg, ?_⟩
  refine List.forall_mem_cons.mpr ⟨q4_15 neg, ?_⟩
  refine List.forall_mem_cons.mpr ⟨q4_16 neg, ?_⟩
  refine List.forall_mem_cons.mpr ⟨q4_17 neg, ?_⟩
  refine List.forall_mem_cons.mpr ⟨q4_18 neg, ?_⟩
  refine List.forall_mem_cons.mpr ⟨q4_19 neg, ?_⟩
  exact fun _ h => nomatch h
theorem q5_1 (neg : Bool) : OthOk neg 5 1 := oth_gen RO_at (RO_zip 5) (preO5 1 neg) RO_tl (pO5_1 neg)
theorem q5_2 (neg : Bool) : OthOk neg 5 2 := oth_gen RO_at (RO_zip 5) (preO5 2 neg) RO_tl (pO5_2 neg)
theorem q5_3 (neg : Bool) : OthOk neg 5 3 := oth_gen RO_at (RO_zip 5) (preO5 3 neg) RO_tl (pO5_3 neg)
theorem q5_4 (neg : Bool) : OthOk neg 5 4 := oth_gen RO_at (RO_zip 5) (preO5 4 neg) RO_tl (pO5_4 neg)
theorem q5_5 (neg : Bool) : OthOk neg 5 5 := oth_gen RO_at (RO_zip 5) (preO5 5 neg) RO_tl (pO5_5 neg)
theorem q5_6 (neg : Bool) : OthOk neg 5 6 := oth_gen RO_at (RO_zip 5) (preO5 6 neg) RO_tl (pO5_6 neg)
theorem q5_7 (neg : Bool) : OthOk neg 5 7 := oth_gen RO_at (RO_zip 5) (preO5 7 neg) RO_tl (pO5_7 neg)
theorem q5_8 (neg : Bool) : OthOk neg 5 8 := oth_gen RO_at (RO_zip 5) (preO5 8 neg) RO_tl (pO5_8 neg)
theorem q5_9 (neg : Bool) : OthOk neg 5 9 := oth_gen RO_at (RO_zip 5) (preO5 9 neg) RO_tl (pO5_9 neg)
theorem q5_10 (neg : Bool) : OthOk neg 5 10 := oth_gen RO_at (RO_zip 5) (preO5 10 neg) RO_tl (pO5_10 neg)
theorem q5_11 (neg : Bool) : OthOk neg 5 11 := oth_gen RO_at (RO_zip 5) (preO5 11 neg) RO_tl (pO5_11 neg)
theorem q5_12 (neg : Bool) : OthOk neg 5 12 := oth_gen RO_at (RO_zip 5) (preO5 12 neg) RO_tl (pO5_12 neg)
theorem q5_13 (neg : Bool) : OthOk neg 5 13 := oth_gen RO_at (RO_zip 5) (preO5 13 neg) RO_tl (pO5_13 neg)
theorem q5_14 (neg : Bool) : OthOk neg 5 14 := oth_gen RO_at (RO_zip 5) (preO5 14 neg) RO_tl (pO5_14 neg)
theorem q5_15 (neg : Bool) : OthOk neg 5 15 := oth_gen RO_at (RO_zip 5) (preO5 15 neg) RO_tl (pO5_15 neg)
theorem q5_16 (neg : Bool) : OthOk neg 5 16 := oth_gen RO_at (RO_zip 5) (preO5 16 neg) RO_tl (pO5_16 neg)
theorem q5_17 (neg : Bool) : OthOk neg 5 17 := oth_gen RO_at (RO_zip 5) (preO5 17 neg) RO_tl (pO5_17 neg)
theorem q5_18 (neg : Bool) : OthOk neg 5 18 := oth_gen RO_at (RO_zip 5) (preO5 18 neg) RO_tl (pO5_18 neg)
theorem q5_19 (neg : Bool) : OthOk neg 5 19 := oth_gen RO_at (RO_zip 5) (preO5 19 neg) RO_tl (pO5_19 neg)
theorem oth5 (neg : Bool) : ∀ D ∈ L19, OthOk neg 5 D := by
  unfold L19
  refine List.forall_mem_cons.mpr ⟨q5_1 neg, ?_⟩
  refine List.forall_mem_cons.mpr ⟨q5_2 neg, ?_⟩
  refine List.forall_mem_cons.mpr ⟨q5_3 neg, ?_⟩
  refine List.forall_mem_cons.mpr ⟨q5_4 neg, ?_⟩
  refine List.forall_mem_cons.mpr ⟨q5_5 neg, ?_⟩
  refine List.forall_mem_cons.mpr ⟨q5_6 neg, ?_⟩
  refine List.forall_mem_cons.mpr ⟨q5_7 neg, ?_⟩
  refine List.forall_mem_cons.mpr ⟨q5_8 neg, ?_⟩
  refine List.forall_mem_cons.mpr ⟨q5_9 neg, ?_⟩
  refine List.forall_mem_cons.mpr ⟨q5_10 neg, ?_⟩
  refine List.forall_mem_cons.mpr ⟨q5_11 neg, ?_⟩
  refine List.forall_mem_cons.mpr ⟨q5_12 neg, ?_⟩
  refine List.forall_mem_cons.mpr ⟨q5_13 neg, ?_⟩
  refine List.forall_mem_cons.mpr ⟨q5_14 neg, ?_⟩
  refine List.forall_mem_cons.mpr ⟨q5_15 neg, ?_⟩
  refine List.forall_mem_cons.mpr ⟨q5_16 neg, ?_⟩
  refine List.forall_mem_cons.mpr ⟨q5_17 neg, ?_⟩
  refine List.forall_mem_cons.mpr ⟨q5_18 neg, ?_⟩
  refine List.forall_mem_cons.mpr ⟨q5_19 neg, ?_⟩
  exact fun _ h => nomatch h
theorem q6_1 (neg : Bool) : OthOk neg 6 1 := oth_gen RO_at (RO_zip 6) (preO6 1 neg) RO_tl (pO6_1 neg)
theorem q6_2 (neg : Bool) : OthOk neg 6 2 := oth_gen RO_at (RO_zip 6) (preO6 2 neg) RO_tl (pO6_2 neg)
theorem q6_3 (neg : Bool) : OthOk neg 6 3 := oth_gen RO_at (RO_zip 6) (preO6 3 neg) RO_tl (pO6_3 neg)
theorem q6_4 (neg : Bool) : OthOk neg 6 4 := oth_gen RO_at (RO_zip 6) (preO6 4 neg) RO_tl (pO6_4 neg)
theorem q6_5 (neg : Bool) : OthOk neg 6 5 := oth_gen RO_at (RO_zip 6) (preO6 5 neg) RO_tl (pO6_5 neg)
theorem q6_6 (neg : Bool) : OthOk neg 6 6 := oth_gen RO_at (RO_zip 6) (preO6 6 neg) RO_tl (pO6_6 neg)
theorem q6_7 (neg : Bool) : OthOk neg 6 7 := oth_gen RO_at (RO_zip 6) (preO6 7 neg) RO_tl (pO6_7 neg)
theorem q6_8 (neg : Bool) : OthOk neg 6 8 := oth_gen RO_at (RO_zip 6) (preO6 8 neg) RO_tl (pO6_8 neg)
theorem q6_9 (neg : Bool) : OthOk neg 6 9 := oth_gen RO_at (RO_zip 6) (preO6 9 neg) RO_tl (pO6_9 neg)
theorem q6_10 (neg : Bool) : OthOk neg 6 10 := oth_gen RO_at (RO_zip 6) (preO6 10 neg) RO_tl (pO6_10 neg)
theorem q6_11 (neg : Bool) : OthOk neg 6 11 := oth_gen RO_at (RO_zip 6) (preO6 11 neg) RO_tl (pO6_11 neg)
theorem q6_12 (neg : Bool) : OthOk neg 6 12 := oth_gen RO_at (RO_zip 6) (preO6 12 neg) RO_tl (pO6_12 neg)
theorem q6_13 (neg : Bool) : OthOk neg 6 13 := oth_gen RO_at (RO_zip 6) (preO6 13 neg) RO_tl (pO6_13 neg)
theorem q6_14 (neg : Bool) : OthOk neg 6 14 := oth_gen RO_at (RO_zip 6) (preO6 14 neg) RO_tl (pO6_14 neg)
theorem q6_15 (neg : Bool) : OthOk neg 6 15 := oth_gen RO_at (RO_zip 6) (preO6 15 neg) RO_tl (pO6_15 neg)
theorem q6_16 (neg : Bool) : OthOk neg 6 16 := oth_gen RO_at (RO_zip 6) (preO6 16 neg) RO_tl (pO6_16 neg)
theorem q6_17 (neg : Bool) : OthOk neg 6 17 := oth_gen RO_at (RO_zip 6) (preO6 17 neg) RO_tl (pO6_17 neg)
theorem q6_18 (neg : Bool) : OthOk neg 6 18 := oth_gen RO_at (RO_zip 6) (preO6 18 neg) RO_tl (pO6_18 neg)
theorem q6_19 (neg : Bool) : OthOk neg 6 19 := oth_gen RO_at (RO_zip 6) (preO6 19 neg) RO_tl (pO6_19 neg)
theorem oth6 (neg : Bool) : ∀ D ∈ L19, OthOk neg 6 D := by
  unfold L19
  refine List.forall_mem_cons.mpr ⟨q6_1 neg, ?_⟩
  refine List.forall_mem_cons.mpr ⟨q6_2 neg, ?_⟩
  refine List.forall_mem_cons.mpr ⟨q6_3 neg, ?_⟩
  refine List.forall_mem_cons.mpr ⟨q6_4 neg, ?_⟩
  refine List.forall_mem_cons.mpr ⟨q6_5 neg, ?_⟩
  refine List.forall_mem_cons.mpr ⟨q6_6 neg, ?_⟩
  refine List.forall_mem_cons.mpr ⟨q6_7 neg, ?_⟩
  refine List.forall_mem_cons.mpr ⟨q6_8 neg, ?_⟩
  refine List.forall_mem_cons.mpr ⟨q6_9 neg, ?_⟩
  refine List.forall_mem_cons.mpr ⟨q6_10 neg, ?_⟩
  refine List.forall_mem_cons.mpr ⟨q6_11 neg, ?_⟩
  refine List.forall_mem_cons.mpr ⟨q6_12 neg, ?_⟩
  refine List.forall_mem_cons.mpr ⟨q6_13 neg, ?_⟩
  refine List.forall_mem_cons.mpr ⟨q6_14 neg, ?_⟩
  refine List.forall_mem_cons.mpr ⟨q6_15 neg, ?_⟩
  refine List.forall_mem_cons.mpr ⟨q6_16 neg, ?_⟩
  refine List.forall_mem_cons.mpr ⟨q6_17 neg, ?_⟩
  refine List.forall_mem_cons.mpr ⟨q6_18 neg, ?_⟩
  refine List.forall_mem_cons.mpr ⟨q6_19 neg, ?_⟩
  exact fun _ h => nomatch h
theorem q7_1 (neg : Bool) : OthOk neg 7 1 := oth_gen RO_at (RO_zip 7) (preO7 1 neg) RO_tl (pO7_1 neg)
theorem q7_2 (neg : Bool) : OthOk neg 7 2 := oth_gen RO_at (RO_zip 7) (preO7 2 neg) RO_tl (pO7_2 neg)
theorem q7_3 (neg : Bool) : OthOk neg 7 3 := oth_gen RO_at (RO_zip 7) (preO7 3 neg) RO_tl (pO7_3 neg)
theorem q7_4 (neg : Bool) : OthOk neg 7 4 := oth_gen RO_at (RO_zip 7) (preO7 4 neg) RO_tl (pO7_4 neg)
theorem q7_5 (neg : Bool) : OthOk neg 7 5 := oth_gen RO_at (RO_zip 7) (preO7 5 neg) RO_tl (pO7_5 neg)
theorem q7_6 (neg : Bool) : OthOk neg 7 6 := oth_gen RO_at (RO_zip 7) (preO7 6 neg) RO_tl (pO7_6 neg)
theorem q7_7 (neg : Bool) : OthOk neg 7 7 := oth_gen RO_at (RO_zip 7) (preO7 7 neg) RO_tl (pO7_7 neg)
theorem q7_8 (neg : Bool) : OthOk neg 7 8 := oth_gen RO_at (RO_zip 7) (preO7 8 neg) RO_tl (pO7_8 neg)
theorem q7_9 (neg : Bool) : OthOk neg 7 9 := oth_gen RO_at (RO_zip 7) (preO7 9 neg) RO_tl (pO7_9 neg)
theorem q7_10 (neg : Bool) : OthOk neg 7 10 := oth_gen RO_at (RO_zip 7) (preO7 10 neg) RO_tl (pO7_10 neg)
theorem q7_11 (neg : Bool) : OthOk neg 7 11 := oth_gen RO_at (RO_zip 7) (preO7 11 neg) RO_tl (pO7_11 neg)
theorem q7_12 (neg : Bool) : OthOk neg 7 12 := oth_gen RO_at (RO_zip 7) (preO7 12 neg) RO_tl (pO7_12 neg)
theorem q7_13 (neg : Bool) : OthOk neg 7 13 := oth_gen RO_at (RO_zip 7) (preO7 13 neg) RO_tl (pO7_13 neg)
theorem q7_14 (neg : Bool) : OthOk neg 7 14 := oth_gen RO_at (RO_zip 7) (preO7 14 neg) RO_tl (pO7_14 neg)
theorem q7_15 (neg : Bool) : OthOk neg 7 15 := oth_gen RO_at (RO_zip 7) (preO7 15 neg) RO_tl (pO7_15 neg)
theorem q7_16 (neg : Bool) : OthOk neg 7 16 := oth_gen RO_at (RO_zip 7) (preO7 16 neg) RO_tl (pO7_16 neg)
theorem q7_17 (neg : Bool) : OthOk neg 7 17 := oth_gen RO_at (RO_zip 7) (preO7 17 neg) RO_tl (pO7_17 neg)
theorem q7_18 (neg : Bool) : OthOk neg 7 18 := oth_gen RO_at (RO_zip 7) (preO7 18 neg) RO_tl (pO7_18 neg)
theorem q7_19 (neg : Bool) : OthOk neg 7 19 := oth_gen RO_at (RO_zip 7) (preO7 19 neg) RO_tl (pO7_19 neg)
theorem oth7 (neg : Bool) : ∀ D ∈ L19, OthOk neg 7 D := by
  unfold L19
  refine List.forall_mem_cons.mpr ⟨q7_1 neg, ?_⟩
  refine List.forall_mem_cons.mpr ⟨q7_2 neg, ?_⟩
  refine List.forall_mem_cons.mpr ⟨q7_3 neg, ?_⟩
  refine List.forall_mem_cons.mpr ⟨q7_4 neg, ?_⟩
  refine List.forall_mem_cons.mpr ⟨q7_5 neg, ?_⟩
  refine List.forall_mem_cons.mpr ⟨q7_6 neg, ?_⟩
  refine List.forall_mem_cons.mpr ⟨q7_7 neg, ?_⟩
  refine List.forall_mem_cons.mpr ⟨q7_8 neg, ?_⟩
  refine List.forall_mem_cons.mpr ⟨q7_9 neg, ?_⟩
  refine List.forall_mem_cons.mpr ⟨q7_10 neg, ?_⟩
  refine List.forall_mem_cons.mpr ⟨q7_11 neg, ?_⟩
  refine List.forall_mem_cons.mpr ⟨q7_12 neg, ?_⟩
  refine List.forall_mem_cons.mpr ⟨q7_13 neg, ?_⟩
  refine List.forall_mem_cons.mpr ⟨q7_14 neg, ?_⟩
  refine List.forall_mem_cons.mpr ⟨q7_15 neg, ?_⟩
  refine List.forall_mem_cons.mpr ⟨q7_16 neg, ?_⟩
  refine List.forall_mem_cons.mpr ⟨q7_17 neg, ?_⟩
  refine List.forall_mem_cons.mpr ⟨q7_18 neg, ?_⟩
  refine List.forall_mem_cons.mpr ⟨q7_19 neg, ?_⟩
  exact fun _ h => nomatch h
theorem q8_1 (neg : Bool) : OthOk neg 8 1 := oth_gen RO_at (RO_zip 8) (preO8 1 neg) RO_tl (pO8_1 neg)
theorem q8_2 (neg : Bool) : OthOk neg 8 2 := oth_gen RO_at (RO_zip 8) (preO8 2 neg) RO_tl (pO8_2 neg)
theorem q8_3 (neg : Bool) : OthOk neg 8 3 := oth_gen RO_at (RO_zip 8) (preO8 3 neg) RO_tl (pO8_3 neg)
theorem q8_4 (neg : Bool) : OthOk neg 8 4 := oth_gen RO_at (RO_zip 8) (preO8 4 neg) RO_tl (pO8_4 neg)
theorem q8_5 (neg : Bool) : OthOk neg 8 5 := oth_gen RO_at (RO_zip 8) (preO8 5 neg) RO_tl (pO8_5 neg)
theorem q8_6 (neg : Bool) : OthOk neg 8 6 := oth_gen RO_at (RO_zip 8) (preO8 6 neg) RO_tl (pO8_6 neg)
theorem q8_7 (neg : Bool) : OthOk neg 8 7 := oth_gen RO_at (RO_zip 8) (preO8 7 neg) RO_tl (pO8_7 neg)
theorem q8_8 (neg : Bool) : OthOk neg 8 8 := oth_gen RO_at (RO_zip 8) (preO8 8 neg) RO_tl (pO8_8 neg)
theorem q8_9 (neg : Bool) : OthOk neg 8 9 := oth_gen RO_at (RO_zip 8) (preO8 9 neg) RO_tl (pO8_9 neg)
theorem q8_10 (neg : Bool) : OthOk neg 8 10 := oth_gen RO_at (RO_zip 8) (preO8 10 neg) RO_tl (pO8_10 neg)
theorem q8_11 (neg : Bool) : OthOk neg 8 11 := oth_gen RO_at (RO_zip 8) (preO8 11 neg) RO_tl (pO8_11 neg)
theorem q8_12 (neg : Bool) : OthOk neg 8 12 := oth_gen RO_at (RO_zip 8) (preO8 12 neg) RO_tl (pO8_12 neg)
theorem q8_13 (neg : Bool) : OthOk neg 8 13 := oth_gen RO_at (RO_zip 8) (preO8 13 neg) RO_tl (pO8_13 neg)
theorem q8_14 (neg : Bool) : OthOk neg 8 14 := oth_gen RO_at (RO_zip 8) (preO8 14 neg) RO_tl (pO8_14 neg)
theorem q8_15 (neg : Bool) : OthOk neg 8 15 := oth_gen RO_at (RO_zip 8) (preO8 15 neg) RO_tl (pO8_15 neg)
theorem q8_16 (neg : Bool) : OthOk neg 8 16 := oth_gen RO_at (RO_zip 8) (preO8 16 neg) RO_tl (pO8_16 neg)
theorem q8_17 (neg : Bool) : OthOk neg 8 17 := oth_gen RO_at (RO_zip 8) (preO8 17 neg) RO_tl (pO8_17 neg)
theorem q8_18 (neg : Bool) : OthOk neg 8 18 := oth_gen RO_at (RO_zip 8) (preO8 18 neg) RO_tl (pO8_18 neg)
theorem q8_19 (neg : Bool) : OthOk neg 8 19 := oth_gen RO_at (RO_zip 8) (preO8 19 neg) RO_tl (pO8_19 neg)
theorem oth8 (neg : Bool) : ∀ D ∈ L19, OthOk neg 8 D := by
  unfold L19
  refine List.forall_mem_cons.mpr ⟨q8_1 neg, ?_⟩
  refine List.forall_mem_cons.mpr ⟨q8_2 neg, ?_⟩
  refine List.forall_mem_cons.mpr ⟨q8_3 neg, ?_⟩
  refine List.forall_mem_cons.mpr ⟨q8_4 neg, ?_⟩
  refine List.forall_mem_cons.mpr ⟨q8_5 neg, ?_⟩
  refine List.forall_mem_cons.mpr ⟨q8_6 neg, ?_⟩
  refine List.forall_mem_cons.mpr ⟨q8_7 neg, ?_⟩
  refine List.forall_mem_cons.mpr ⟨q8_8 neg, ?_⟩
  refine List.forall_mem_cons.mpr ⟨q8_9 neg, ?_⟩
  refine List.forall_mem_cons.mpr ⟨q8_10 neg, ?_⟩
  refine List.forall_mem_cons.mpr ⟨q8_11 neg, ?_⟩
  refine List.forall_mem_cons.mpr ⟨q8_12 neg, ?_⟩
  refine List.forall_mem_cons.mpr ⟨q8_13 neg, ?_⟩
  refine List.forall_mem_cons.mpr ⟨q8_14 neg, ?_⟩
  refine List.forall_mem_cons.mpr ⟨q8_15 neg, ?_⟩
  refine List.forall_mem_cons.mpr ⟨q8_16 neg, ?_⟩
  refine List.forall_mem_cons.mpr ⟨q8_17 neg, ?_⟩
  refine List.forall_mem_cons.mpr ⟨q8_18 neg, ?_⟩
  refine List.forall_mem_cons.mpr ⟨q8_19 neg, ?_⟩
  exact fun _ h => nomatch h
end Mine
end

section
set_option maxRecDepth 100000
namespace Mine
open PySem PySem.W PyProof.Rows PySem.Calls PySem.SeqAt
section
variable {P : Lw} {L cA : Addr} {Z : List (Addr × Obj)} {env : Env} {A : Around} {fr : List Env} {m : PySem.Str → Option Value} {ρ : List Addr} {s : Shared} {E : Value → Shared → Prop} {u : Int} {σ : Sig} {oc : Obj} {l : Loc} {h : Heap}
/-! the cell of rest -/
theorem cell_at (S : St (gm u) P.h₀ L m ((cA, oc) :: Z) ρ σ h) {v : Option Value} (hd : oc.data = .cell v) : h.IsCell cA v := by
  obtain ⟨o', g1, g2, _, _⟩ := S.mem (.head _)
  refine ⟨o', g1, ?_⟩
  rcases g2 with g2 | ⟨_, sl, g2⟩
  · rw [g2]; exact hd
  · rw [g2]; exact hd
theorem store_cell (b : LB env A fr L cA) (S : St (gm u) P.h₀ L m ((cA, oc) :: Z) ρ σ s.heap) {v0 : Option Value} (hd : oc.data = .cell v0) {v : Value} {M : Model} {A' : Around} {Q : Unit → Shared → Prop}
    (q : ∀ h' oc', oc'.data = .cell (some v) → St (gm u) P.h₀ L m ((cA, oc') :: Z) ρ σ h' → Q () { s with heap := h' }) : wpAny M A' (storeName env (nm v_rest) v) Q E s := by
  refine wpAny_storeName_cell b.fk b.ck b.cl (cell_at S hd) fun h' hv hs => ?_
  obtain ⟨o', e1, e2⟩ := hv
  exact q h' o' e2 (S.alter (fun c ob hc hb => hs.extBut c ob hc hb) e1)
theorem noSwapL (b : LB env A fr L cA) {x : Nat} {xp yp tp : Pos} (e : PySem.Expr) : swappedStores [.Tuple [.Name (nm x) xp, .Name (nm v_rest) yp] 0 tp] e env = pure none := by
  have hb : (env.blockKind != .function) = false := by unfold Env.blockKind; rw [b.fk]; rfl
  have hk := b.ck
  unfold swappedStores
  cases e with
  | Tuple vs k vp =>
    dsimp only
    split
    · rfl
    · split
      · rfl
      · simp only [List.filterMap_cons, List.filterMap_nil, hk]
        have e1 : (some NameKind.cell == some NameKind.local) = false := rfl
        simp only [e1, Bool.false_and, Bool.false_eq_true, if_false]
        split <;> rfl
  | _ => rfl
/-- rest = e -/
theorem asg_cell (ok : LwOk P) (b : LB env A fr L cA) {ih : Itp} (So : SoundS (P.W u) ih) {fi : FI} (c : Cs (P.W u) L ((cA, oc) :: Z) fi env A fr) {xp p : Pos} {e : PE} {q : Int} {Q : Flow → Shared → Prop} (hn : noComp e = true) {v0 : Option Value} (hd : oc.data = .cell v0)
    (S : St (gm u) P.h₀ L m ((cA, oc) :: Z) ρ σ s.heap) (hl : LR (gm u) env ρ l m) (he : ih.ev fi l e σ = .ok (.int q) σ)
    (k : ∀ h' tk' oc' t', oc'.data = .cell (some (.int q t')) → St (gm u) P.h₀ L m ((cA, oc') :: Z) ρ σ h' → Q .next { s with heap := h', toks := tk' }) :
    WP (model P.prog P.w) A (exec (.Assign [.Name (nm v_rest) xp] (toE nm e) p) env) Q E s := by
  refine WP.mk (wpAny_Assign_Name (ev_same (W := P.W u) So.toSound c.toCx S hl he fun v h1 tk1 S1 r1 => ?_) (noSwap _ _ hn _ _ _))
  cases r1 with | int _ t =>
  exact store_cell (s := { s with heap := h1, toks := tk1 }) b S1 hd fun h2 oc2 d2 S2 => k h2 tk1 oc2 t d2 S2
/-- x, rest = e -/
theorem asg_lc (ok : LwOk P) (b : LB env A fr L cA) {ih : Itp} (So : SoundS (P.W u) ih) {fi : FI} (c : Cs (P.W u) L ((cA, oc) :: Z) fi env A fr) {x : Nat} {xp yp tp p : Pos} {e : PE} {q : Int} {va : AV} {led led1 : Led} {n n1 i : Nat} {Q : Flow → Shared → Prop} (hn : noComp e = true)
    {v0 : Option Value} (hd : oc.data = .cell v0) (hx : nelem fi.locs x = true) (S : St (gm u) P.h₀ L m ((cA, oc) :: Z) ρ ⟨led, n⟩ s.heap) (hl : LR (gm u) env ρ l m) (he : ih.ev fi l e ⟨led, n⟩ = .ok (.ref i) ⟨led1, n1⟩) (hlk : aget led1 i = some (.tup [va, .int q]))
    (hk : keepNew n (fun _ => false) led1 = led) (bl : belowL n led = true) (bc : belowC n (aput l x va) = true)
    (k : ∀ m' h' tk' oc' t', oc'.data = .cell (some (.int q t')) → St (gm u) P.h₀ L m' ((cA, oc') :: Z) ρ ⟨led, n⟩ h' → LR (gm u) env ρ (aput l x va) m' → Q .next { s with heap := h', toks := tk' }) :
    WP (model P.prog P.w) A (exec (.Assign [.Tuple [.Name (nm x) xp, .Name (nm v_rest) yp] 0 tp] (toE nm e) p) env) Q E s := by
  refine WP.mk (Assign_Tuple (ev_is (W := P.W u) So.toSound c.toCx S hl he fun ρ1 v h1 tk1 p1 S1 hl1 r1 => ?_) (swaps_tuple _ _ _ _ _ _ fun t => noSwap _ _ hn _ _ _) (noSwapL b _))
  cases r1 with | @ref _ a hp =>
  obtain ⟨us, itp, hv, k0, hg⟩ := at_tup S1 hlk hp
  cases hv with | @cons _ wa _ _ ra rest =>
  cases rest with | @cons _ wb _ _ rb rest =>
  cases rest
  cases rb with | int _ t =>
  refine wpAny_assign_Tuple b.hd itp rfl rfl fun h2 he2 => ?_
  have S2 := S1.keeps (h' := h2) fun c o e => he2 c o (Nat.ne_of_lt (Heap.lt_size e)) e
  show wpAny _ _ (assignInOrder [assign (.Name (nm x) xp) env, assign (.Name (nm v_rest) yp) env] [wa, .int q t]) _ _ _
  refine wpAny_assignInOrder_more (wpAny_assign_Name ?_)
  refine store_sound (W := P.W u) (s := { s with heap := h2, toks := tk1 }) c.toCx S2 hl1 hx ra fun h3 m3 S3 hl3 => ?_
  refine wpAny_assignInOrder_more (wpAny_assign_Name ?_)
  refine store_cell (s := { s with heap := h3, toks := tk1 + 1 }) b S3 hd fun h4 oc4 d4 S4 => ?_
  exact wpAny_assignInOrder_none (k m3 h4 _ oc4 t d4 (S.back p1 S4 hk bl) (LR.back S p1 hl3 bc))
end
end Mine
end

section
set_option maxRecDepth 100000
namespace Mine
open PySem PySem.W PyProof.Rows PySem.Calls PySem.SeqAt
/-! the comprehension that reads the cell -/
noncomputable def scN : List (Nat × Nat) := [(24, 0), (2, 0), (50, 1), (33, 2)]
theorem sc4_eq : sc4 = scN := rfl
noncomputable def flagB (r : Int) (k : Int) : Bool := (Int.fmod (Int.fdiv r k) 2) == 1
noncomputable def ledT : Led := (513, .tup [.int 1, .int 2, .int 4]) :: led0
noncomputable def fi4 (r : Int) : FI := ⟨[2], [50], 14, [(v_rest, .int r)]⟩
theorem ev_t4i (l : Loc) (r : Int) : R1.ev (fiC r) l lw_t4i ⟨led0, nxt0⟩ = .ok (.ref 513) ⟨ledT, 514⟩ := by kernel_rfl
theorem cmp_t4 (p : Pos) (r : Int) : R1.cmp (fi4 r) [] lw_t4e [(v_size, p)] none .nil (.sym 513) 0 ⟨ledT, 514⟩ = .ok [.bool (flagB r 1), .bool (flagB r 2), .bool (flagB r 4)] ⟨ledT, 514⟩ := by kernel_rfl
theorem src4 : srcOf ⟨ledT, 514⟩ (.ref 513) = .sym 513 := by kernel_rfl
theorem drop4 (b0 b1 b2 : Bool) : Mine.drop 513 (.ref 514) (Mine.alloc ⟨ledT, 514⟩ (.lst [.bool b0, .bool b1, .bool b2])).2 = ⟨led5 b0 b1 b2, 515⟩ := by kernel_rfl
theorem ev_t4r (l : Loc) (r : Int) (σ : Sig) : R1.ev (fiC r) l lw_t4r σ = .ok (.int (Int.fdiv r 8)) σ := by kernel_rfl
theorem sc_names (x : Nat) : (scE nm scN).names.lookup (nm x) = (aget scN x).map scK := look_sc nm nm_inj scN x
theorem relabel_sc {env : Env} (fk : env.scope.kind = .function) (ck : env.kindOf (nm v_rest) = some .cell) (x : Nat) (k : NameKind) (h : (scE nm scN).names.lookup (nm x) = some k) :
    (relabel (scE nm scN) env).names.lookup (nm x) = some (if k = .free then .cell else k) := by
  have key : ∀ (sc : List (Nat × Nat)), (∀ q ∈ sc, q.2 ≠ 0 → q.2 ≠ 1 → q.1 = v_rest) → ∀ k, ((sc.map fun q => (nm q.1, scK q.2)).lookup (nm x)) = some k →
      (((sc.map fun q => (nm q.1, scK q.2)).map fun (n, k) => if (k == .free && env.scope.kind == .function && env.kindOf n == some .cell) then (n, NameKind.cell) else (n, k)).lookup (nm x)) = some (if k = .free then .cell else k) := by
    intro sc
    induction sc with
    | nil => intro _ k h; cases h
    | cons q r ih =>
      intro hq k h
      rw [List.map_cons, List.lookup_cons] at h
      rw [List.map_cons, List.map_cons]
      have hk : (if (scK q.2 == .free && env.scope.kind == .function && env.kindOf (nm q.1) == some .cell) = true then (nm q.1, NameKind.cell) else (nm q.1, scK q.2)) = (nm q.1, if scK q.2 = .free then NameKind.cell else scK q.2) := by
        by_cases e : scK q.2 = .free
        · have hr : q.1 = v_rest := hq q (.head _) (fun z => by rw [z] at e; cases e) (fun z => by rw [z] at e; cases e)
          rw [e, hr, fk, ck]; rfl
        · have e' : (scK q.2 == NameKind.free) = false := beq_eq_false_iff_ne.mpr e
          rw [e', if_neg e]; rfl
      show List.lookup (nm x) ((if (scK q.2 == .free && env.scope.kind == .function && env.kindOf (nm q.1) == some .cell) = true then (nm q.1, NameKind.cell) else (nm q.1, scK q.2)) :: _) = _
      rw [hk, List.lookup_cons]
      cases z : (nm x == nm q.1) with
      | true =>
        rw [z] at h
        have h : some (scK q.2) = some k := h
        cases h
        rfl
      | false =>
        rw [z] at h
        exact ih (fun p hp => hq p (.tail _ hp)) k h
  exact key scN (by decide) k h
theorem clos4 {env : Env} {cA : Addr} (cl : env.cells.lookup (nm v_rest) = some cA) : closureFor (scE nm scN) env = pure [(nm v_rest, cA)] := by
  have hc : cellOf env (nm v_rest) = pure cA := by unfold cellOf; rw [cl]
  unfold closureFor
  show (do
    let mut cs := []
    for (name, kind) in [(nm 24, NameKind.local), (nm 2, .local), (nm 50, .globalImplicit), (nm v_rest, .free)] do
      if kind == NameKind.free then cs := (name, ← cellOf env name) :: cs
    return cs) = _
  simp only [List.forIn_cons, List.forIn_nil]
  rw [hc]
  rfl
section
variable {P : Lw} {L cA : Addr} {Z : List (Addr × Obj)} {env : Env} {A : Around} {fr : List Env} {m : PySem.Str → Option Value} {ρ : List Addr} {s : Shared} {E : Value → Shared → Prop} {oc : Obj} {l : Loc}
theorem comp4 (ok : LwOk P) (b : LB env A fr L cA) {r : Int} {t : Tok} (hoc : oc.data = .cell (some (.int r t))) {Q : Value → Shared → Prop} (S : St (gm 0) P.h₀ L m ((cA, oc) :: Z) ρ ⟨led0, nxt0⟩ s.heap) (hl : LR (gm 0) env ρ l m)
    (k : ∀ ρ' v h' tk', ρ <+: ρ' → St (gm 0) P.h₀ L m ((cA, oc) :: Z) ρ' ⟨led5 (flagB r 1) (flagB r 2) (flagB r 4), 515⟩ h' → VR (gm 0) ρ' (.ref 514) v → Q v { s with heap := h', toks := tk' }) :
    wpAny (model P.prog P.w) A (eval (lwC4 nm) env) Q E s := by
  have So := Lw.sound0 ok
  have c := b.csC P 0 (Y := (cA, oc) :: Z) (.head _) hoc
  show wpAny _ _ (eval (.ListComp (toE nm lw_t4e) [⟨.Name (nm v_size) ⟨434, 55, 434, 59⟩, toE nm lw_t4i, [], 0⟩] (scE nm scN) ⟨434, 23, 434, 73⟩) env) _ _ _
  rw [eval_ListComp]
  refine wpAny_comprehension_free (use := none) rfl (fun v => noFold _ _ _ _) (clos4 b.cl) rfl (fun x hx hlx => ?_) (ev_is (W := P.W 0) So.toSound c.toCx S hl (ev_t4i l r) fun ρ1 x h1 tk1 p1 S1 hl1 r1 => ?_)
  · obtain ⟨q, hq, rfl⟩ := List.mem_map.mp hx
    rw [sc_names]
    have hlx : scK q.2 = .local := hlx
    rcases List.mem_cons.mp hq with rfl | hq
    · rfl
    · rcases List.mem_cons.mp hq with rfl | hq
      · rfl
      · rcases List.mem_cons.mp hq with rfl | hq
        · cases hlx
        · rcases List.mem_cons.mp hq with rfl | hq
          · cases hlx
          · cases hq
  refine src_iter (W := P.W 0) (s := { s with heap := h1, toks := tk1 }) S1 r1 (show srcOk ⟨ledT, 514⟩ (.ref 513) = true by kernel_rfl) fun oI hi hfr hnd again => ?_
  dsimp only at again ⊢
  rw [src4] at hi
  refine wpAny_newObj_type (s := { s with heap := h1.push oI, toks := tk1 }) (hd := by show 0 ≤ sizeLine; exact Nat.zero_le _) ?_
  have S2 := (S1.aside oI hfr).aside (PySem.W.listOf ([] : List Value).toArray 0) rfl
  refine wpAny_newFunctionEnv (s := { s with heap := (h1.push oI).push (PySem.W.listOf ([] : List Value).toArray 0), toks := tk1 }) (fun x hx => ?_) (fun x hx => nomatch hx) (fun h2 hns hsb => ?_) rfl
  · obtain ⟨q, hq, rfl⟩ := List.mem_map.mp hx
    show scK q.2 ≠ .cell
    rcases List.mem_cons.mp hq with rfl | hq
    · decide
    · rcases List.mem_cons.mp hq with rfl | hq
      · decide
      · rcases List.mem_cons.mp hq with rfl | hq
        · decide
        · rcases List.mem_cons.mp hq with rfl | hq
          · decide
          · cases hq
  dsimp only at hns hsb ⊢
  have hk : ∀ b o, ((h1.push oI).push (PySem.W.listOf ([] : List Value).toArray 0)).get? b = some o → h2.get? b = some o := fun b o e =>
    hsb.extBut b o (Nat.ne_of_lt (Heap.lt_size e)) (Heap.get?_push_of_some _ e)
  obtain ⟨oL, nL, S3⟩ := S2.enter hns (Nat.le_refl _) hk
  have S4 := (S3.swap.swap2).swap
  generalize hD : (h1.push oI).objs.size = D at S4 ⊢
  generalize hC : ((h1.push oI).push (PySem.W.listOf ([] : List Value).toArray 0)).objs.size = C at hns S4 ⊢
  have rk : ∀ x k, (scE nm scN).names.lookup (nm x) = some k → (relabel (scE nm scN) env).names.lookup (nm x) = some (if k = .free then .cell else k) := fun x k h => relabel_sc b.fk b.ck x k h
  have cx : Cx (P.W 0) C ((h1.objs.size, oI) :: (D, PySem.W.listOf ([] : List Value).toArray 0) :: (L, oL) :: (cA, oc) :: Z) (fi4 r)
      { newEnv (scE nm scN) C env.globals [(nm v_rest, cA)] env.qual none .none (some env) builtinsNs with scope := relabel (scE nm scN) env } A fr :=
    { fk := rfl
      lo := rfl
      gl := b.gl
      bu := b.bu
      li := fun x hx => by
        have hx : (bif Nat.beq 2 x then true else false) = true := hx
        cases z : Nat.beq 2 x with
        | false => rw [z] at hx; cases hx
        | true =>
          have := Nat.eq_of_beq_eq_true z
          subst this
          exact rk 2 .local (by rw [sc_names]; rfl)
      gi := fun x hx => by
        have hx : (bif Nat.beq 50 x then true else false) = true := hx
        cases z : Nat.beq 50 x with
        | false => rw [z] at hx; cases hx
        | true =>
          have := Nat.eq_of_beq_eq_true z
          subst this
          exact rk 50 .globalImplicit (by rw [sc_names]; rfl)
      un := by have := b.un; show A.units + 200 * 14 + 100 < cLine; omega
      hd := b.hd
      dp := by have := b.dp; show A.depth + 8 * 14 + 4 < recursionLimit; omega
      fs := b.fs
      ff := fun e he => by
        refine ⟨(b.ff e he).1, L, (b.ff e he).2, .inr ?_⟩
        obtain ⟨es, n, e⟩ := nL.isDict
        exact ⟨oL, es, n, .tail _ (.tail _ (.head _)), e⟩
      ce := fun x a e => by
        have e : (bif Nat.beq v_rest x then some (AV.int r) else none) = some a := e
        cases z : Nat.beq v_rest x with
        | false => rw [z] at e; cases e
        | true =>
          rw [z] at e
          cases e
          have := Nat.eq_of_beq_eq_true z
          subst this
          refine ⟨cA, oc, .int r t, rk v_rest .free (by rw [sc_names]; rfl), ?_, .tail _ (.tail _ (.tail _ (.head _))), hoc, fun ρ => .int _ _⟩
          show ([(nm v_rest, cA)] : List (PySem.Str × Addr)).lookup (nm v_rest) = _
          simp [List.lookup_cons] }
  have hneL : C ≠ L := by
    rw [← hC]
    obtain ⟨_, _, S2⟩ := S2
    exact (Nat.ne_of_lt S2.F.ns.lt).symm
  have loop : ∀ s₂ : Shared, s₂ = { s with heap := h2, toks := tk1 + ([] : List (PySem.Str × Value)).length } →
      codeAny (model P.prog P.w) A (.compLoop (.ListComp (toE nm lw_t4e) [⟨.Name (nm v_size) ⟨434, 55, 434, 59⟩, toE nm lw_t4i, [], 0⟩] (scE nm scN) ⟨434, 23, 434, 73⟩) 0 (.ref h1.objs.size) (.ref D)
        { newEnv (scE nm scN) C env.globals [(nm v_rest, cA)] env.qual none .none (some env) builtinsNs with scope := relabel (scE nm scN) env })
        (compPost (model P.prog P.w) A E none Q (.ref D) C) s₂ := by
    rintro s₂ rfl
    refine So.cmp (s := { s with heap := h2, toks := tk1 + ([] : List (PySem.Str × Value)).length }) (elt := lw_t4e) (ts := [(v_size, ⟨434, 55, 434, 59⟩)]) (tp := none) (ifs := .nil) (iter := toE nm lw_t4i) (ys := []) (l := []) cx S4 (fun x a e => by cases e) hi (Nat.zero_le _) (fun q hq => by
      rcases List.mem_cons.mp hq with rfl | hq
      · rfl
      · cases hq) (cmp_t4 ⟨434, 55, 434, 59⟩ r) fun ρ' h' tk' mc' zs n' pp S5 r5 => ?_
    refine ⟨mc', by obtain ⟨_, _, S5⟩ := S5; exact S5.F.ns, fun h3 hs3 => ?_⟩
    have S6 : St (gm 0) P.h₀ L m ((D, PySem.W.listOf ([] ++ zs).toArray n') :: (cA, oc) :: Z) ρ' ⟨ledT, 514⟩ h3 := S5.swap.leaveBut nL S1.above fun b o hb e => hs3.extBut b o hb e
    have S7 := S6.adopt (fun q => by rcases q with ⟨_, _, q⟩ | ⟨_, q⟩ <;> cases q) (ao := .lst [.bool (flagB r 1), .bool (flagB r 2), .bool (flagB r 4)]) (.lst n' (VRs.mono (pre_snoc ρ' D) r5))
    have S8 := S7.drop 513 (.ref 514)
    rw [drop4] at S8
    exact k (ρ' ++ [D]) _ h3 tk' ((p1.trans pp).trans (pre_snoc _ _)) S8 (.ref (ix_of S6 D (.lst [.bool (flagB r 1), .bool (flagB r 2), .bool (flagB r 4)])))
  obtain ⟨oI', g1, g2, _, _⟩ := S4.mem (.head _)
  have hI : h2.get? h1.objs.size = some oI := by
    rcases g2 with g2 | ⟨sl, _⟩
    · rw [g1, g2]
    · exact absurd sl hnd
  exact codeAny_compStart_list (loop _ rfl) (again _ hI (loop _ rfl))
end
end Mine
end

section
set_option maxRecDepth 100000
namespace Mine
open PySem PySem.W PyProof.Rows PySem.Calls PySem.SeqAt
/-! the statements of the last loop, one by one -/
noncomputable def usL : List AV := usC.map .str
noncomputable def sgL : List AV := sgC.map .str
theorem ev_t0 (c : Int) (σ : Sig) : R1.ev fiL (aput loc0 v_cell (.int c)) lw_t0 σ = .ok (.int (absI c)) σ := by kernel_rfl
noncomputable def ledP (a : AV) (q : Int) : Led := (513, .tup [a, .int q]) :: led0
theorem ev_t1 (l : Loc) (r : Int) : R1.ev (fiC r) l lw_t1 ⟨led0, nxt0⟩ = .ok (.ref 513) ⟨ledP (.int (Int.fmod r 11)) (Int.fdiv r 11), 514⟩ := by kernel_rfl
/-- an item of a written list, beside a number -/
noncomputable def G2 (xs : List AV) (k q : Int) : Out AV := ((ofOpt (subv ⟨(513, .lst xs) :: led0, 514⟩ (.ref 513) (.int k)) ⟨(513, .lst xs) :: led0, 514⟩).bind fun v σ => .ok [v, .int q] σ).bind fun vs σ =>
  bif small vs.length then .ok (.ref (Mine.alloc σ (.tup vs)).1) (Mine.alloc σ (.tup vs)).2 else .stuck
noncomputable def ledQ (xs : List AV) (a : AV) (q : Int) : Led := (514, .tup [a, .int q]) :: (513, .lst xs) :: led0
theorem ev_t2g (l : Loc) (r : Int) : R1.ev (fiC r) l lw_t2 ⟨led0, nxt0⟩ = G2 usL (Int.fmod r 5) (Int.fdiv r 5) := by kernel_rfl
theorem ev_t3g (l : Loc) (r : Int) : R1.ev (fiC r) l lw_t3 ⟨led0, nxt0⟩ = G2 sgL (Int.fmod r 3) (Int.fdiv r 3) := by kernel_rfl
theorem G2_u (q : Int) : ∀ u : Nat, u < 5 → ∃ s ∈ usC, G2 usL (u : Int) q = .ok (.ref 514) ⟨ledQ usL (.str s) q, 515⟩ := by
  intro u hu
  match u, hu with
  | 0, _ => exact ⟨_, by simp only [usC]; exact .head _, by kernel_rfl⟩
  | 1, _ => exact ⟨_, by simp only [usC]; exact .tail _ (.head _), by kernel_rfl⟩
  | 2, _ => exact ⟨_, by simp only [usC]; exact .tail _ (.tail _ (.head _)), by kernel_rfl⟩
  | 3, _ => exact ⟨_, by simp only [usC]; exact .tail _ (.tail _ (.tail _ (.head _))), by kernel_rfl⟩
  | 4, _ => exact ⟨_, by simp only [usC]; exact .tail _ (.tail _ (.tail _ (.tail _ (.head _)))), by kernel_rfl⟩
  | n + 5, h => omega
theorem G2_s (q : Int) : ∀ u : Nat, u < 3 → ∃ s ∈ sgC, G2 sgL (u : Int) q = .ok (.ref 514) ⟨ledQ sgL (.str s) q, 515⟩ := by
  intro u hu
  match u, hu with
  | 0, _ => exact ⟨_, by simp only [sgC]; exact .head _, by kernel_rfl⟩
  | 1, _ => exact ⟨_, by simp only [sgC]; exact .tail _ (.head _), by kernel_rfl⟩
  | 2, _ => exact ⟨_, by simp only [sgC]; exact .tail _ (.tail _ (.head _)), by kernel_rfl⟩
  | n + 3, h => omega
theorem fmod_nat (r : Int) (k : Nat) (hk : 0 < k) : ∃ a : Nat, a < k ∧ Int.fmod r k = (a : Int) := by
  have h1 : 0 ≤ Int.fmod r (k : Int) := Int.fmod_nonneg_of_pos r (by omega)
  have h2 : Int.fmod r (k : Int) < k := Int.fmod_lt_of_pos r (by omega)
  exact ⟨(Int.fmod r k).toNat, by omega, by omega⟩
theorem L19_mem {D : Int} (h3 : 1 ≤ D) (h4 : D ≤ 19) : D ∈ L19 := by
  obtain ⟨d, rfl⟩ := Int.eq_ofNat_of_zero_le (Int.le_trans (by decide) h3)
  have e : L19 = List.map (fun k : Nat => (k : Int)) (List.range' 1 19) := by decide
  have hd : d < 1 + 19 := Nat.lt_of_le_of_lt (Int.ofNat_le.mp h4) (by decide)
  rw [e]
  exact List.mem_map_of_mem (f := fun k : Nat => (k : Int)) (List.mem_range'_1.mpr ⟨Int.ofNat_le.mp h3, hd⟩)
theorem nine {P : Int → Prop} (h0 : P 0) (h1 : P 1) (h2 : P 2) (h3 : P 3) (h4 : P 4) (h5 : P 5) (h6 : P 6) (h7 : P 7) (h8 : P 8) : ∀ n : Nat, n < 9 → P (n : Int)
  | 0, _ => h0
  | 1, _ => h1
  | 2, _ => h2
  | 3, _ => h3
  | 4, _ => h4
  | 5, _ => h5
  | 6, _ => h6
  | 7, _ => h7
  | 8, _ => h8
  | n + 9, h => absurd h (Nat.not_lt.mpr (Nat.le_add_left 9 n))
theorem oth_at (neg : Bool) {sc D : Int} (h1 : 0 ≤ sc) (h2 : sc < 9) (h3 : 1 ≤ D) (h4 : D ≤ 19) : OthOk neg sc D := by
  have hD := L19_mem h3 h4
  obtain ⟨n, rfl⟩ := Int.eq_ofNat_of_zero_le h1
  exact nine (P := fun sc => OthOk neg sc D) (oth0 neg D hD) (oth1 neg D hD) (oth2 neg D hD) (oth3 neg D hD) (oth4 neg D hD) (oth5 neg D hD) (oth6 neg D hD) (oth7 neg D hD) (oth8 neg D hD) n (Int.ofNat_lt.mp h2)
/-- the answer of _law_others_right, closed to the unifier -/
@[irreducible] noncomputable def OthU (sc k : Int) : Out AV := (run (tbU k) (190 + 1 + 4 + 1)).cl 13 f_law_others_right [.sym 0, .int sc] ⟨led0, nxt0⟩
theorem OthU_eq (sc k : Int) : OthU sc k = (run (tbU k) (190 + 1 + 4 + 1)).cl 13 f_law_others_right [.sym 0, .int sc] ⟨led0, nxt0⟩ := by unfold OthU; rfl
theorem oth_u {sc k : Int} (h1 : 0 ≤ sc) (h2 : sc < 9) (h3 : 1 ≤ lenD k) (h4 : lenD k ≤ 19) : outT (OthU sc k) = some led0 := by
  rw [OthU_eq]
  unfold tbU
  exact oth_at (decide (k < 0)) h1 h2 h3 h4
theorem plain0 : plainL led0 = true ∧ plainC loc0 = true := ⟨by decide +kernel, by decide +kernel⟩
theorem led_bl : belowL nxt0 led0 = true := bl_0.1
theorem led5_bl (f0 f1 f2 : Bool) : belowL 515 (led5 f0 f1 f2) = true := by kernel_rfl
theorem led5_kn (f0 f1 f2 : Bool) : keepNew 515 (fun _ => false) (led5 f0 f1 f2) = led5 f0 f1 f2 := rfl
theorem led5_k0 (f0 f1 f2 : Bool) : keepNew nxt0 (fun _ => false) (led5 f0 f1 f2) = led0 := rfl
theorem ledP_k (a : AV) (q : Int) : keepNew nxt0 (fun _ => false) (ledP a q) = led0 := rfl
theorem ledQ_k (xs : List AV) (a : AV) (q : Int) : keepNew nxt0 (fun _ => false) (ledQ xs a q) = led0 := rfl
section
variable {P : Lw} {L cA : Addr} {Y Z : List (Addr × Obj)} {env : Env} {A : Around} {fr : List Env} {m : PySem.Str → Option Value} {ρ : List Addr} {s : Shared} {E : Value → Shared → Prop} {oc : Obj} {l : Loc}
/-- a call of _law_others_right -/
theorem oth_call (ok : LwOk P) (b : LB env A fr L cA) {k sc : Int} {t1 t2 : Tok} (hk : (absI k).natAbs < 10 ^ 19) (h1 : 0 ≤ sc) (h2 : sc < 9) {Q : Value → Shared → Prop} (S : St (gm 0) P.h₀ L m Y ρ ⟨led0, nxt0⟩ s.heap)
    (q : ∀ h' tk', St (gm 0) P.h₀ L m Y ρ ⟨led0, nxt0⟩ h' → Q (.bool true) { s with heap := h', toks := tk' }) : WP (model P.prog P.w) A (call (.ref (fAd f_law_others_right)) [.int k t1, .int sc t2]) Q E s := by
  have hk20 : (absI k).natAbs < 10 ^ 20 := Nat.lt_trans hk (by decide)
  obtain ⟨d1, d2⟩ := lenD_19 hk
  have e := oth_u (k := k) h1 h2 d1 d2
  have So := (Lw.sound ok hk20 (190 + 1 + 4 + 1)).toSound
  have c : Cc (P.W k) L Y A fr 13 := (b.cs0 P k Y).toCx.cc (Nat.le_refl _)
  have S1 : St (gm k) P.h₀ L m Y ρ ⟨led0, nxt0⟩ s.heap := S.reG k plain0.1
  refine WP.mk (wpAny_call ?_)
  have ha : VRs (gm k) ρ [.sym 0, .int sc] [.int k t1, .int sc t2] := .cons (VR.sym (G := gm k) 0 t1) (.cons (.int sc t2) .nil)
  refine So.cl (c := 13) (k := f_law_others_right) c S1 ha ?_
  rw [← OthU_eq sc k]
  revert e
  generalize OthU sc k = o
  intro e
  cases o with
  | stuck => cases e
  | exc σ' => cases e
  | ok v σ' =>
    cases v with
    | bool bb =>
      cases bb with
      | false => cases e
      | true =>
        have e : some σ'.led = some led0 := e
        obtain ⟨ledX, nX⟩ := σ'
        injection e with e
        have e : ledX = led0 := e
        subst e
        intro ρ' v h' tk' p S' r
        cases r
        have S2 := S1.back p S' kn_D.2 led_bl
        exact q h' tk' (S2.reG 0 plain0.1)
    | _ => cases e
end
end Mine
end

section
set_option maxRecDepth 100000
namespace Mine
open PySem PySem.W PyProof.Rows PySem.Calls PySem.SeqAt
noncomputable def lC (c : Int) : Loc := aput loc0 v_cell (.int c)
noncomputable def l1 (c : Int) (a : Nat) : Loc := aput (lC c) v_at (.int a)
noncomputable def l2 (c : Int) (a : Nat) (u : List Nat) : Loc := aput (l1 c a) v_usage (.str u)
noncomputable def l3 (c : Int) (a : Nat) (u s : List Nat) : Loc := aput (l2 c a u) v_sign (.str s)
noncomputable def l7 (c U sc : Int) : Loc := aput (aput (lC c) v_scale (.int sc)) v_units (.int U)
theorem l5_eq (c : Int) (a : Nat) (u s : List Nat) : aput (l3 c a u s) v_flags (.ref 514) = loc5 c a u s := rfl
theorem bc_C (c : Int) : belowC nxt0 (lC c) = true ∧ belowC 515 (lC c) = true := ⟨by kernel_rfl, by kernel_rfl⟩
theorem bc_1 (c : Int) (a : Nat) : belowC nxt0 (l1 c a) = true := by kernel_rfl
theorem bc_2 (c : Int) (a : Nat) (u : List Nat) : belowC nxt0 (l2 c a u) = true := by kernel_rfl
theorem bc_3 (c : Int) (a : Nat) (u s : List Nat) : belowC nxt0 (l3 c a u s) = true := by kernel_rfl
theorem bc_7 (c U sc : Int) : belowC nxt0 (l7 c U sc) = true := by kernel_rfl
theorem sub_5 (c : Int) (a : Nat) (u s : List Nat) : SubL (lC c) (loc5 c a u s) :=
  ((((SubL.refl (lC c)).put (x := v_at) (by rfl) _).put (x := v_usage) (by rfl) _).put (x := v_sign) (by rfl) _).put (x := v_flags) (by rfl) _
theorem sub_0 (c : Int) : SubL loc0 (lC c) := (SubL.refl loc0).put (by rfl) _
theorem sub_07 (c U sc : Int) : SubL loc0 (l7 c U sc) := ((sub_0 c).put (x := v_scale) (by rfl) _).put (x := v_units) (by rfl) _
theorem ev_t6 (c r : Int) : outN (R1.ex (fiC r) (lC c) lw_t6 ⟨led0, nxt0⟩) = some (l7 c (Int.fmod r (10 ^ 19)) (Int.fmod r 9), led0) := by kernel_rfl
theorem ev_t7a (c U sc : Int) (σ : Sig) : R1.ev fiL (l7 c U sc) lw_t7a σ = bif decide (0 ≤ c) then .ok (.int U) σ else .ok (.int (0 - U)) σ := by kernel_rfl
noncomputable def sgn (c U : Int) : Int := bif decide (0 ≤ c) then U else 0 - U
theorem ev_t7a' (c U sc : Int) (σ : Sig) : R1.ev fiL (l7 c U sc) lw_t7a σ = .ok (.int (sgn c U)) σ := by
  rw [ev_t7a]
  unfold sgn
  cases decide (0 ≤ c) <;> rfl
theorem ev_t7b (c U sc : Int) (σ : Sig) : R1.ev fiL (l7 c U sc) lw_t7b σ = .ok (.int sc) σ := by kernel_rfl
theorem ev_oth (l : Loc) (p : Pos) (σ : Sig) : R1.ev fiL l (.glb v_law_others_right p) σ = .ok (.fn f_law_others_right) σ := by kernel_rfl
section
variable {P : Lw} {L cA : Addr} {Y Z : List (Addr × Obj)} {env : Env} {A : Around} {fr : List Env} {m : PySem.Str → Option Value} {ρ : List Addr} {s : Shared} {E : Value → Shared → Prop} {oc : Obj} {l : Loc}
  {Q : Flow → Shared → Prop}
theorem law_T0 (ok : LwOk P) (b : LB env A fr L cA) {c : Int} {v0 : Option Value} (hd : oc.data = .cell v0) (S : St (gm 0) P.h₀ L m ((cA, oc) :: Z) ρ ⟨led0, nxt0⟩ s.heap) (hl : LR (gm 0) env ρ (lC c) m)
    (k : ∀ h' tk' oc' t', oc'.data = .cell (some (.int (absI c) t')) → St (gm 0) P.h₀ L m ((cA, oc') :: Z) ρ ⟨led0, nxt0⟩ h' → Q .next { s with heap := h', toks := tk' }) : WP (model P.prog P.w) A (exec (lwT0 nm) env) Q E s :=
  asg_cell (u := 0) (ih := R1) (fi := fiL) (e := lw_t0) ok b (Lw.sound0 ok) (b.cs0 P 0 _) rfl hd S hl (ev_t0 c _) k
theorem law_T1 (ok : LwOk P) (b : LB env A fr L cA) {c r : Int} {t : Tok} (hd : oc.data = .cell (some (.int r t))) (S : St (gm 0) P.h₀ L m ((cA, oc) :: Z) ρ ⟨led0, nxt0⟩ s.heap) (hl : LR (gm 0) env ρ (lC c) m)
    (k : ∀ a : Nat, a < 11 → ∀ m' h' tk' oc' t', oc'.data = .cell (some (.int (Int.fdiv r 11) t')) → St (gm 0) P.h₀ L m' ((cA, oc') :: Z) ρ ⟨led0, nxt0⟩ h' → LR (gm 0) env ρ (l1 c a) m' → Q .next { s with heap := h', toks := tk' }) : WP (model P.prog P.w) A (exec (lwT1 nm) env) Q E s := by
  obtain ⟨a, ha, e⟩ := fmod_nat r 11 (by decide)
  have he := ev_t1 (lC c) r
  have e : Int.fmod r 11 = (a : Int) := e
  rw [e] at he
  exact asg_lc (u := 0) (ih := R1) (fi := fiC r) (x := v_at) (e := lw_t1) ok b (Lw.sound0 ok) (b.csC P 0 (.head _) hd) rfl hd rfl S hl he rfl (ledP_k _ _) led_bl (bc_1 c a) (k a ha)
theorem law_T2 (ok : LwOk P) (b : LB env A fr L cA) {c r : Int} {a : Nat} {t : Tok} (hd : oc.data = .cell (some (.int r t))) (S : St (gm 0) P.h₀ L m ((cA, oc) :: Z) ρ ⟨led0, nxt0⟩ s.heap) (hl : LR (gm 0) env ρ (l1 c a) m)
    (k : ∀ u ∈ usC, ∀ m' h' tk' oc' t', oc'.data = .cell (some (.int (Int.fdiv r 5) t')) → St (gm 0) P.h₀ L m' ((cA, oc') :: Z) ρ ⟨led0, nxt0⟩ h' → LR (gm 0) env ρ (l2 c a u) m' → Q .next { s with heap := h', toks := tk' }) : WP (model P.prog P.w) A (exec (lwT2 nm) env) Q E s := by
  obtain ⟨n, hn, e⟩ := fmod_nat r 5 (by decide)
  have he := ev_t2g (l1 c a) r
  have e : Int.fmod r 5 = (n : Int) := e
  obtain ⟨u, hu, e2⟩ := G2_u (Int.fdiv r 5) n hn
  rw [e, e2] at he
  exact asg_lc (u := 0) (ih := R1) (fi := fiC r) (x := v_usage) (e := lw_t2) ok b (Lw.sound0 ok) (b.csC P 0 (.head _) hd) rfl hd rfl S hl he rfl (ledQ_k _ _ _) led_bl (bc_2 c a u) (k u hu)
theorem law_T3 (ok : LwOk P) (b : LB env A fr L cA) {c r : Int} {a : Nat} {u : List Nat} {t : Tok} (hd : oc.data = .cell (some (.int r t))) (S : St (gm 0) P.h₀ L m ((cA, oc) :: Z) ρ ⟨led0, nxt0⟩ s.heap) (hl : LR (gm 0) env ρ (l2 c a u) m)
    (k : ∀ sg ∈ sgC, ∀ m' h' tk' oc' t', oc'.data = .cell (some (.int (Int.fdiv r 3) t')) → St (gm 0) P.h₀ L m' ((cA, oc') :: Z) ρ ⟨led0, nxt0⟩ h' → LR (gm 0) env ρ (l3 c a u sg) m' → Q .next { s with heap := h', toks := tk' }) : WP (model P.prog P.w) A (exec (lwT3 nm) env) Q E s := by
  obtain ⟨n, hn, e⟩ := fmod_nat r 3 (by decide)
  have he := ev_t3g (l2 c a u) r
  have e : Int.fmod r 3 = (n : Int) := e
  obtain ⟨sg, hs, e2⟩ := G2_s (Int.fdiv r 3) n hn
  rw [e, e2] at he
  exact asg_lc (u := 0) (ih := R1) (fi := fiC r) (x := v_sign) (e := lw_t3) ok b (Lw.sound0 ok) (b.csC P 0 (.head _) hd) rfl hd rfl S hl he rfl (ledQ_k _ _ _) led_bl (bc_3 c a u sg) (k sg hs)
theorem swaps_T (es : List PySem.Expr) (k : Nat) (p : Pos) (t : Option PySem.Expr) (line : Nat) : swapsWith (.Tuple es k p) t line env = pure false := rfl
theorem law_T4 (ok : LwOk P) (b : LB env A fr L cA) {c r : Int} {a : Nat} {u sg : List Nat} {t : Tok} (hd : oc.data = .cell (some (.int r t))) (S : St (gm 0) P.h₀ L m ((cA, oc) :: Z) ρ ⟨led0, nxt0⟩ s.heap) (hl : LR (gm 0) env ρ (l3 c a u sg) m)
    (k : ∀ ρ' m' h' tk' oc' t', ρ <+: ρ' → oc'.data = .cell (some (.int (Int.fdiv r 8) t')) → St (gm 0) P.h₀ L m' ((cA, oc') :: Z) ρ' ⟨led5 (flagB r 1) (flagB r 2) (flagB r 4), 515⟩ h' → LR (gm 0) env ρ' (loc5 c a u sg) m' → Q .next { s with heap := h', toks := tk' }) :
    WP (model P.prog P.w) A (exec (lwT4 nm) env) Q E s := by
  have So := Lw.sound0 ok
  have cs := b.csC P 0 (Y := (cA, oc) :: Z) (.head _) hd
  refine WP.mk (Assign_Tuple ?_ (swaps_tuple _ _ _ _ _ _ fun t => swaps_T _ _ _ _ _) (noSwapL b _))
  refine Tuple_ ?_
  show wpAny _ _ (spliced [(false, eval (lwC4 nm) env), (false, eval (toE nm lw_t4r) env)]) _ _ _
  refine spliced_cons (comp4 ok b hd S hl fun ρ5 v5 h5 tk5 p5 S5 r5 => ?_)
  refine spliced_cons (ev_same (W := P.W 0) (s := { s with heap := h5, toks := tk5 }) (ih := R1) (e := lw_t4r) So.toSound cs.toCx S5 (hl.mono p5) (ev_t4r _ r _) fun w h6 tk6 S6 r6 => ?_)
  cases r6 with | int _ t6 =>
  cases r5 with | @ref _ D hD =>
  refine spliced_nil (tup_sound (C := 65) (fr := fr) (s := { s with heap := h6, toks := tk6 }) S6 (.cons (.ref hD) (.cons (.int (Int.fdiv r 8) t6) .nil)) (by show 2 ≤ 1000; omega) fun ρ7 v7 h7 tk7 p7 S7 r7 => ?_)
  cases r7 with | @ref _ T hT =>
  obtain ⟨us, itp, hv, k0, hg⟩ := at_tup S7 (i := 515) (vs := [.ref 514, .int (Int.fdiv r 8)]) rfl hT
  cases hv with | @cons _ wa _ _ ra rest =>
  cases rest with | @cons _ wb _ _ rb rest =>
  cases rest
  cases rb with | int _ t8 =>
  refine wpAny_assign_Tuple (s := { s with heap := h7, toks := tk7 }) b.hd itp rfl rfl fun h8 he8 => ?_
  have S8 := S7.keeps (h' := h8) fun c o e => he8 c o (Nat.ne_of_lt (Heap.lt_size e)) e
  show wpAny _ _ (assignInOrder [assign (.Name (nm v_flags) _) env, assign (.Name (nm v_rest) _) env] [wa, .int (Int.fdiv r 8) t8]) _ _ _
  refine wpAny_assignInOrder_more (wpAny_assign_Name ?_)
  refine store_sound (W := P.W 0) (s := { s with heap := h8, toks := tk7 }) cs.toCx S8 ((hl.mono p5).mono p7) (x := v_flags) rfl ra fun h9 m9 S9 hl9 => ?_
  refine wpAny_assignInOrder_more (wpAny_assign_Name ?_)
  refine store_cell (s := { s with heap := h9, toks := tk7 + 1 }) b S9 hd fun h10 oc10 d10 S10 => ?_
  refine wpAny_assignInOrder_none ?_
  exact k ρ5 m9 h10 _ oc10 t8 p5 d10 (S5.back p7 S10 rfl (led5_bl _ _ _)) (LR.back S5 p7 hl9 (by kernel_rfl))
theorem law_T5 (ok : LwOk P) (b : LB env A fr L cA) {c : Int} {a : Nat} {u sg : List Nat} {f0 f1 f2 : Bool} (ha : a < 11) (hu : u ∈ usC) (hs : sg ∈ sgC) (S : St (gm 0) P.h₀ L m Y ρ ⟨led5 f0 f1 f2, 515⟩ s.heap) (hl : LR (gm 0) env ρ (loc5 c a u sg) m)
    (k : ∀ m' h' tk', St (gm 0) P.h₀ L m' Y ρ ⟨led5 f0 f1 f2, 515⟩ h' → LR (gm 0) env ρ (lC c) m' → Q .next { s with heap := h', toks := tk' }) : WP (model P.prog P.w) A (exec (toS nm lw_t5) env) Q E s :=
  stmt_ok (W := P.W 0) (ih := R1) (b := lw_t5) (Lw.sound0 ok) (b.cs0 P 0 _) S hl (t5_all c f0 f1 f2 a ha u hu sg hs) (led5_kn _ _ _) (led5_bl _ _ _) (sub_5 c a u sg) (bc_C c).2 k
theorem law_T6 (ok : LwOk P) (b : LB env A fr L cA) {c r : Int} {t : Tok} (hd : oc.data = .cell (some (.int r t))) (S : St (gm 0) P.h₀ L m ((cA, oc) :: Z) ρ ⟨led0, nxt0⟩ s.heap) (hl : LR (gm 0) env ρ (lC c) m)
    (k : ∀ m' h' tk', St (gm 0) P.h₀ L m' ((cA, oc) :: Z) ρ ⟨led0, nxt0⟩ h' → LR (gm 0) env ρ (l7 c (Int.fmod r (10 ^ 19)) (Int.fmod r 9)) m' → Q .next { s with heap := h', toks := tk' }) : WP (model P.prog P.w) A (exec (lwT6 nm) env) Q E s :=
  stmt_ok (W := P.W 0) (ih := R1) (b := lw_t6) (Lw.sound0 ok) (b.csC P 0 (.head _) hd) S hl (ev_t6 c r) kn_D.2 led_bl (SubL.refl _) (bc_7 _ _ _) k
theorem law_T7 (ok : LwOk P) (b : LB env A fr L cA) {c U sc : Int} (hU : (absI (sgn c U)).natAbs < 10 ^ 19) (h1 : 0 ≤ sc) (h2 : sc < 9) (S : St (gm 0) P.h₀ L m Y ρ ⟨led0, nxt0⟩ s.heap) (hl : LR (gm 0) env ρ (l7 c U sc) m)
    (k : ∀ h' tk', St (gm 0) P.h₀ L m Y ρ ⟨led0, nxt0⟩ h' → Q .next { s with heap := h', toks := tk' }) : WP (model P.prog P.w) A (exec (lwT7 nm) env) Q E s := by
  have So := (Lw.sound0 ok).toSound
  have cx := (b.cs0 P 0 Y).toCx
  refine WP.mk (wpAny_If (isTrue_not (isTrue_plain (Call_Name (starEach_plain nm _ env (.cons lw_t7a (.cons lw_t7b .nil))) ?_) rfl)))
  refine ev_same (W := P.W 0) (ih := R1) (e := .glb v_law_others_right _) So cx S hl (ev_oth _ _ _) fun f h3 tk3 S3 r3 => ?_
  cases r3
  refine callWith_k (K := hd.heap_39 P.w.params) (fnk_all P.w.params f_law_others_right) ?_
  show wpAny _ _ (spliced [(false, eval (toE nm lw_t7a) env), (false, eval (toE nm lw_t7b) env)]) _ _ _
  refine spliced_cons (ev_same (W := P.W 0) (s := { s with heap := h3, toks := tk3 }) (ih := R1) (e := lw_t7a) So cx S3 hl (ev_t7a' c U sc _) fun v4 h4 tk4 S4 r4 => ?_)
  refine spliced_cons (ev_same (W := P.W 0) (s := { s with heap := h4, toks := tk4 }) (ih := R1) (e := lw_t7b) So cx S4 hl (ev_t7b c U sc _) fun v5 h5 tk5 S5 r5 => ?_)
  cases r4 with | int _ t4 =>
  cases r5 with | int _ t5 =>
  refine spliced_nil ⟨St.KIn (Lw.sta ok (u := 0) (by decide)) S5, ?_⟩
  refine WP.un ?_
  refine oth_call (s := { s with heap := h5, toks := tk5 }) ok b hU h1 h2 S5 fun h6 tk6 S6 => ?_
  refine wpAny_truthy_bool ?_
  exact wpAny_execs_nil (k h6 tk6 S6)
end
end Mine
end

section
set_option maxRecDepth 100000
namespace Mine
open PySem PySem.W PyProof.Rows PySem.Calls PySem.SeqAt
/-! the list that the last loop goes through -/
section
variable {G : Mn} {P : Lw} {L cA : Addr} {Y Z : List (Addr × Obj)} {env : Env} {A : Around} {fr : List Env} {m : PySem.Str → Option Value} {ρ : List Addr} {s : Shared} {E : Value → Shared → Prop} {oc : Obj} {l : Loc} {h₀ h h' : Heap} {σ : Sig}
theorem StW.alloc2 {news X : List (Addr × Obj)} (S : StW G h₀ L m Y ρ σ h news X) {a : Addr} (ha : ∀ p ∈ news ++ X, p.1 < a) {ao : AO} {o : Obj} (ho : OR G (ρ ++ [a]) ao o) (F' : Fr h₀ L h' m) (N' : News h₀ L h' ((a, o) :: (news ++ X))) :
    St G h₀ L m Y (ρ ++ [a]) (Mine.alloc σ ao).2 h' := by
  refine ⟨(a, o) :: news, X, ⟨by simp [Mine.alloc, S.len], F', N', ?_, ?_, S.X⟩⟩
  · rw [List.cons_append, List.map_cons]
    refine List.nodup_cons.mpr ⟨fun hm => ?_, S.nd⟩
    obtain ⟨p, hp, e⟩ := List.mem_map.mp hm
    exact Nat.ne_of_lt (ha p hp) e
  · have := S.R.alloc ho
    rw [S.len] at this
    exact this
/-- the ledger's last object becomes one beside -/
theorem St.expel {led : Led} {n i : Nat} {ao : AO} (S : St G h₀ L m Y ρ ⟨(i, ao) :: led, n⟩ h) : ∃ a o, ρ[i]? = some a ∧ OR G ρ ao o ∧ St G h₀ L m ((a, o) :: Y) ρ ⟨led, n⟩ h := by
  obtain ⟨news, X, S⟩ := S
  have R := S.R
  cases R with
  | @cons _ q _ news pq rest =>
    obtain ⟨a, o⟩ := q
    have pm : (news ++ (a, o) :: X).Perm ((a, o) :: (news ++ X)) := List.perm_middle
    refine ⟨a, o, pq.1, pq.2, news, (a, o) :: X, ⟨S.len, S.F, fun p hp => S.N p (pm.mem_iff.mp hp), ((pm.map (·.1)).nodup_iff).mpr S.nd, rest, .cons ⟨rfl, .inl rfl⟩ S.X⟩⟩
theorem ints_vrs {ws : List Value} {ms : List Int} (h : IntsAre ws ms) : VRs G ρ (ms.map .int) ws := by
  induction h with
  | nil => exact .nil
  | cons k t _ ih => exact .cons (.int k t) ih
theorem vrs_ints : ∀ {ms : List Int} {ws : List Value}, VRs G ρ (ms.map .int) ws → IntsAre ws ms
  | [], _, .nil => .nil
  | k :: r, _, .cons (b := v) ra rest => by
    cases ra with | int _ t => exact .cons k t (vrs_ints rest)
noncomputable def ledL1 (ms : List Int) : Led := (513, .lst (ms.map .int)) :: led0
noncomputable def ledL2 (ms : List Int) : Led := (514, .lst (ms.map .int)) :: ledL1 ms
noncomputable def ledL3 (ms : List Int) (k : Int) : Led := (515, .lst [.int k]) :: ledL2 ms
noncomputable def ledL4 (ms : List Int) (k : Int) : Led := (516, .lst (ms.map .int ++ [.int k])) :: ledL3 ms k
theorem binv_mul {n : Int} (h1 : 0 ≤ n) (h2 : n ≤ 1000) (k : Int) (σ : Sig) : binv σ .Mult (.int n) (.int k) = .ok (.int (n * k)) σ := by
  show (bif decide (0 ≤ n) && decide (n ≤ 1000) then Out.ok (AV.int (n * k)) σ else .stuck) = _
  rw [decide_eq_true h1, decide_eq_true h2]; rfl
theorem binv_cat {ms : List Int} (h : ms.length ≤ 5) (k : Int) : binv ⟨ledL3 ms k, 516⟩ .Add (.ref 514) (.ref 515) = .ok (.ref 516) ⟨ledL4 ms k, 517⟩ := by
  show (bif small ((ms.map AV.int).length + 1) then Out.ok (AV.ref 516) ⟨ledL4 ms k, 517⟩ else .stuck) = _
  have : small ((ms.map AV.int).length + 1) = true := by
    unfold small
    rw [List.length_map]
    exact Nat.ble_eq_true_of_le (by omega)
  rw [this]; rfl
theorem ledL4_k (ms : List Int) (k : Int) : keepNew nxt0 (fun _ => false) (ledL3 ms k) = led0 := rfl
theorem ev_n (x : Nat) (k : Nat) (p : Pos) (σ : Sig) (h : (bif nelem lw_glbs x then aget gT x else none) = some (.bi k)) : R1.ev fiL loc0 (.glb x p) σ = .ok (.bi k) σ := by
  show (bif nelem lw_glbs x then ofOpt (aget gT x) σ else .stuck) = _
  cases z : nelem lw_glbs x with
  | false => rw [z] at h; cases h
  | true =>
    rw [z] at h
    have h : aget gT x = some (.bi k) := h
    rw [h]; rfl
theorem ev_scr (p : Pos) (σ : Sig) : R1.ev fiL loc0 (.loc v_script p) σ = .ok (.ref 0) σ := rfl
theorem ev_int (k : Int) (p : Pos) (σ : Sig) : R1.ev fiL loc0 (.cst (.int k) p) σ = .ok (.int k) σ := rfl
theorem ev_m (ok : LwOk P) (b : LB env A fr L cA) {a : Addr} {vs : List Value} {ns : List Int} (hL : P.h₀.IsList a vs.toArray) (hI : IntsAre vs ns) (hlen : ns.length ≤ 63) (hρ : ρ[0]? = some a) (S : St (gm 0) P.h₀ L m Y ρ σ s.heap) (hl : LR (gm 0) env ρ loc0 m)
    {Q : Value → Shared → Prop} (k : ∀ t h' tk', St (gm 0) P.h₀ L m Y ρ σ h' → Q (.int ((ns.length : Int) * 7919 + 3) t) { s with heap := h', toks := tk' }) : WP (model P.prog P.w) A (eval (lw3m nm) env) Q E s := by
  have So := (Lw.sound0 ok).toSound
  have cx := (b.cs0 P 0 Y).toCx
  have ht := (Lw.sta ok (u := 0) (by decide)).fit
  refine WP.mk (wpAny_BinOp (wpAny_BinOp (Call_Name (trees := [(false, eval (.Name (nm v_script) _) env)]) rfl ?_)))
  refine ev_same (W := P.W 0) (ih := R1) (e := .glb v_len _) So cx S hl (ev_n v_len 0 _ _ (by kernel_rfl)) fun f h1 tk1 S1 r1 => ?_
  cases r1
  show wpAny _ _ (callWith _ (.builtin "len") [] ([PySem.Expr.Name (nm v_script) _].map fun e => (false, eval e env)) []) _ _ _
  refine callWith_b ?_
  show wpAny _ _ (spliced [(false, eval (.Name (nm v_script) _) env)]) _ _ _
  refine spliced_cons (ev_same (W := P.W 0) (s := { s with heap := h1, toks := tk1 }) (ih := R1) (e := .loc v_script _) So cx S1 hl (ev_scr _ _) fun f h2 tk2 S2 r2 => spliced_nil ?_)
  cases r2 with | @ref _ a' hp =>
  obtain rfl : a' = a := by rw [hρ] at hp; exact (Option.some.inj hp).symm
  have hL2 : h2.IsList a' vs.toArray := by
    obtain ⟨_, _, S2⟩ := S2
    obtain ⟨o, ho, r⟩ := hL
    exact ⟨o, S2.F.keep _ _ ho, r⟩
  have hsz : vs.toArray.size = ns.length := by rw [List.size_toArray, hI.length]
  refine call_len_list (s := { s with heap := h2, toks := tk2 }) hL2 (by rw [hsz]; omega) ?_
  rw [hsz]
  refine ev_same (W := P.W 0) (s := { s with heap := h2, toks := tk2 + 1 + 1 }) (ih := R1) (e := .cst (.int 7919) _) So cx S2 hl (ev_int _ _ _) fun v3 h3 tk3 S3 r3 => ?_
  cases r3 with | int _ t3 =>
  refine binv_sound (C := 65) (fr := fr) (s := { s with heap := h3, toks := tk3 }) S3 (.int (ns.length : Int) _) (.int 7919 t3) ?_
  rw [binv_mul (by omega) (by omega)]
  intro ρ4 v4 h4 tk4 p4 S4 r4
  have e4 : ρ4 = ρ := by
    obtain ⟨_, _, S3⟩ := S3
    obtain ⟨_, _, S4⟩ := S4
    exact (p4.eq_of_length (by rw [S3.len, S4.len])).symm
  subst e4
  cases r4 with | int _ t4 =>
  refine ev_same (W := P.W 0) (s := { s with heap := h4, toks := tk4 }) (ih := R1) (e := .cst (.int 3) _) So cx S4 hl (ev_int _ _ _) fun v5 h5 tk5 S5 r5 => ?_
  cases r5 with | int _ t5 =>
  refine binv_sound (C := 65) (fr := fr) (s := { s with heap := h5, toks := tk5 }) S5 (.int ((ns.length : Int) * 7919) t4) (.int 3 t5) ?_
  intro ρ6 v6 h6 tk6 p6 S6 r6
  have e6 : ρ6 = ρ4 := by
    obtain ⟨_, _, S5⟩ := S5
    obtain ⟨_, _, S6⟩ := S6
    exact (p6.eq_of_length (by rw [S5.len, S6.len])).symm
  subst e6
  cases r6 with | int _ t6 =>
  exact k t6 h6 tk6 S6
end
end Mine
end

section
set_option maxRecDepth 100000
namespace Mine
open PySem PySem.W PyProof.Rows PySem.Calls PySem.SeqAt
section
variable {P : Lw} {L cA : Addr} {Y Z : List (Addr × Obj)} {env : Env} {A : Around} {fr : List Env} {m : PySem.Str → Option Value} {ρ : List Addr} {s : Shared} {E : Value → Shared → Prop} {oc : Obj}
/-- list(script[:5]) -/
theorem ev_l (ok : LwOk P) (b : LB env A fr L cA) {a : Addr} {vs : List Value} {ns : List Int} (hL : P.h₀.IsList a vs.toArray) (hI : IntsAre vs ns) (hlen : ns.length ≤ 63) (hρ : ρ[0]? = some a) (S : St (gm 0) P.h₀ L m Y ρ ⟨led0, nxt0⟩ s.heap) (hl : LR (gm 0) env ρ loc0 m)
    {Q : Value → Shared → Prop} (k : ∀ ρ' v h' tk', ρ <+: ρ' → St (gm 0) P.h₀ L m Y ρ' ⟨ledL2 (ns.take 5), 515⟩ h' → VR (gm 0) ρ' (.ref 514) v → Q v { s with heap := h', toks := tk' }) : WP (model P.prog P.w) A (eval (lw3l nm) env) Q E s := by
  have So := (Lw.sound0 ok).toSound
  have cx := (b.cs0 P 0 Y).toCx
  refine WP.mk (Call_Name (trees := [(false, eval (.Subscript (.Name (nm v_script) _) (.Slice none (some (.Constant (.int 5) 0 _)) none _) _) env)]) rfl ?_)
  refine ev_same (W := P.W 0) (ih := R1) (e := .glb v_list _) So cx S hl (ev_n v_list 11 _ _ (by kernel_rfl)) fun f h1 tk1 S1 r1 => ?_
  cases r1
  show wpAny _ _ (callWith _ (.type "list") [] ([PySem.Expr.Subscript (.Name (nm v_script) _) (.Slice none (some (.Constant (.int 5) 0 _)) none _) _].map fun e => (false, eval e env)) []) _ _ _
  refine callWith_t ?_
  show wpAny _ _ (spliced [(false, eval (.Subscript (.Name (nm v_script) _) (.Slice none (some (.Constant (.int 5) 0 _)) none _) _) env)]) _ _ _
  refine spliced_cons (Subscript_ (ev_same (W := P.W 0) (s := { s with heap := h1, toks := tk1 }) (ih := R1) (e := .loc v_script _) So cx S1 hl (ev_scr _ _) fun f h2 tk2 S2 r2 => ?_))
  cases r2 with | @ref _ a' hp =>
  obtain rfl : a' = a := by rw [hρ] at hp; exact (Option.some.inj hp).symm
  refine wpAny_Slice (evalPart_none_step (evalPart_some_step (ev_same (W := P.W 0) (s := { s with heap := h2, toks := tk2 }) (ih := R1) (e := .cst (.int 5) _) So cx S2 hl (ev_int _ _ _) fun v3 h3 tk3 S3 r3 => evalPart_none_step ?_)))
  cases r3 with | int _ t3 =>
  have hsz : vs.toArray.size = ns.length := by rw [List.size_toArray, hI.length]
  obtain ⟨news3, X3, W3⟩ := S3
  have hL3 : h3.IsList a' vs.toArray := by
    obtain ⟨o, ho, r⟩ := hL
    exact ⟨o, W3.F.keep _ _ ho, r⟩
  refine kmk_slice_ints (s := { s with heap := h3, toks := tk3 }) W3.F W3.N hL3 .none (.int 5 t3) hI (kmk_upto hI (by decide)) rfl (fun D ws h4 F4 N4 lt4 hw _ _ => ?_) rfl (fun r => rfl) (by rw [hsz, sizeLine_eq]; omega)
  have S4 : St (gm 0) P.h₀ L m Y (ρ ++ [D]) ⟨ledL1 (ns.take 5), 514⟩ h4 := W3.alloc2 (ao := .lst ((ns.take 5).map .int)) lt4 (.lst 0 (ints_vrs hw)) F4 N4
  have hD : (ρ ++ [D])[513]? = some D := W3.ix D (.lst ((ns.take 5).map .int))
  refine spliced_nil ?_
  show wpAny _ _ (call (.type "list") [.ref D]) _ _ _
  obtain ⟨us, itl, hv, c5, hg⟩ := at_lst S4 (i := 513) (vs := (ns.take 5).map .int) rfl hD
  have hus := vrs_ints hv
  have hul : us.toArray.size ≤ 5 := by
    rw [List.size_toArray, hus.length, List.length_take]
    omega
  obtain ⟨news4, X4, W4⟩ := S4
  refine list_copyK (s := { s with heap := h4, toks := tk3 }) W4.F W4.N itl (fun D2 c6 h5 F5 N5 lt5 => ?_) (by rw [sizeLine_eq]; omega)
  have S5 : St (gm 0) P.h₀ L m Y (ρ ++ [D] ++ [D2]) ⟨ledL2 (ns.take 5), 515⟩ h5 := W4.alloc2 (ao := .lst ((ns.take 5).map .int)) lt5 (.lst c6 (ints_vrs hus)) F5 N5
  exact k (ρ ++ [D] ++ [D2]) _ h5 tk3 (by rw [List.append_assoc]; exact ⟨_, rfl⟩) S5 (.ref (W4.ix D2 (.lst ((ns.take 5).map .int))))
/-- the whole list -/
theorem ev_i (ok : LwOk P) (b : LB env A fr L cA) {a : Addr} {vs : List Value} {ns : List Int} (hL : P.h₀.IsList a vs.toArray) (hI : IntsAre vs ns) (hlen : ns.length ≤ 63) (hρ : ρ[0]? = some a) (S : St (gm 0) P.h₀ L m Y ρ ⟨led0, nxt0⟩ s.heap) (hl : LR (gm 0) env ρ loc0 m)
    {Q : Value → Shared → Prop} (k : ∀ D its ms c h' tk', IntsAre its ms → its.length ≤ 6 → St (gm 0) P.h₀ L m ((D, PySem.W.listOf its.toArray c) :: Y) ρ ⟨led0, nxt0⟩ h' → Q (.ref D) { s with heap := h', toks := tk' }) : WP (model P.prog P.w) A (eval (lw3i nm) env) Q E s := by
  have h5 : (ns.take 5).length ≤ 5 := by rw [List.length_take]; omega
  refine WP.mk (wpAny_BinOp (WP.un ?_))
  refine ev_l ok b hL hI hlen hρ S hl fun ρ1 v1 h1 tk1 p1 S1 r1 => ?_
  refine List_ ?_
  show wpAny _ _ (spliced [(false, eval (lw3m nm) env)]) _ _ _
  refine spliced_cons (WP.un ?_)
  refine ev_m (s := { s with heap := h1, toks := tk1 }) ok b hL hI hlen (pre_get p1 hρ) S1 (hl.mono p1) fun t2 h2 tk2 S2 => ?_
  refine spliced_nil (lst_sound (C := 65) (fr := fr) (s := { s with heap := h2, toks := tk2 }) S2 (.cons (.int ((ns.length : Int) * 7919 + 3) t2) .nil) (by show 1 ≤ 1000; omega) fun ρ3 v3 h3 tk3 p3 S3 r3 => ?_)
  refine binv_sound (C := 65) (fr := fr) (s := { s with heap := h3, toks := tk3 }) (σ := ⟨ledL3 (ns.take 5) ((ns.length : Int) * 7919 + 3), 516⟩) S3 (r1.mono p3) r3 ?_
  rw [show (Mine.alloc (⟨ledL2 (ns.take 5), 515⟩ : Sig) (.lst [.int ((ns.length : Int) * 7919 + 3)])).1 = 515 from rfl, binv_cat h5]
  intro ρ4 v4 h4 tk4 p4 S4 r4
  cases r4 with | @ref _ D hD =>
  obtain ⟨D', o, d1, d2, S5⟩ := St.expel S4
  obtain rfl : D' = D := by rw [hD] at d1; exact (Option.some.inj d1).symm
  cases d2 with | @lst _ its c hv =>
  have hv : VRs (gm 0) ρ4 ((ns.take 5 ++ [(ns.length : Int) * 7919 + 3]).map .int) its := by rw [List.map_append]; exact hv
  have hits := vrs_ints hv
  exact k D' its _ c h4 tk4 hits (by rw [hits.length, List.length_append]; show (ns.take 5).length + 1 ≤ 6; omega) (S.back ((p1.trans p3).trans p4) S5 (ledL4_k _ _) led_bl)
theorem fmod_lt (r : Int) {k : Int} (hk : 0 < k) : 0 ≤ Int.fmod r k ∧ Int.fmod r k < k := ⟨Int.fmod_nonneg_of_pos r hk, Int.fmod_lt_of_pos r hk⟩
theorem sgn_ok (c r : Int) : (absI (sgn c (Int.fmod r (10 ^ 19)))).natAbs < 10 ^ 19 := by
  obtain ⟨h1, h2⟩ := fmod_lt r (k := 10 ^ 19) (by decide)
  unfold sgn absI
  generalize Int.fmod r (10 ^ 19) = U at h1 h2
  have e : (10 : Int) ^ 19 = 10000000000000000000 := by decide
  have e2 : (10 : Nat) ^ 19 = 10000000000000000000 := by decide
  rw [e] at h2
  rw [e2]
  cases decide (0 ≤ c) with
  | true => show (if U < 0 then -U else U).natAbs < _; split <;> omega
  | false => show (if 0 - U < 0 then -(0 - U) else 0 - U).natAbs < _; split <;> omega
/-- the body of the last loop -/
theorem law_B (ok : LwOk P) (b : LB env A fr L cA) {c : Int} {v0 : Option Value} {Q : Flow → Shared → Prop} (hd : oc.data = .cell v0) (S : St (gm 0) P.h₀ L m ((cA, oc) :: Z) ρ ⟨led0, nxt0⟩ s.heap) (hl : LR (gm 0) env ρ (lC c) m)
    (k : ∀ m' h' tk' oc' v', oc'.data = .cell v' → St (gm 0) P.h₀ L m' ((cA, oc') :: Z) ρ ⟨led0, nxt0⟩ h' → LR (gm 0) env ρ loc0 m' → Q .next { s with heap := h', toks := tk' }) : WP (model P.prog P.w) A (execs (lwB3 nm) env) Q E s := by
  show WP _ _ (execs [lwT0 nm, lwT1 nm, lwT2 nm, lwT3 nm, lwT4 nm, toS nm lw_t5, lwT6 nm, lwT7 nm] env) _ _ _
  refine consW ?_
  refine law_T0 ok b hd S hl fun h1 tk1 o1 t1 d1 S1 => ?_
  refine consW ?_
  refine law_T1 (s := { s with heap := h1, toks := tk1 }) ok b d1 S1 hl fun a ha m2 h2 tk2 o2 t2 d2 S2 hl2 => ?_
  refine consW ?_
  refine law_T2 (s := { s with heap := h2, toks := tk2 }) ok b d2 S2 hl2 fun u hu m3 h3 tk3 o3 t3 d3 S3 hl3 => ?_
  refine consW ?_
  refine law_T3 (s := { s with heap := h3, toks := tk3 }) ok b d3 S3 hl3 fun sg hs m4 h4 tk4 o4 t4 d4 S4 hl4 => ?_
  refine consW ?_
  refine law_T4 (s := { s with heap := h4, toks := tk4 }) ok b d4 S4 hl4 fun ρ5 m5 h5 tk5 o5 t5 p5 d5 S5 hl5 => ?_
  refine consW ?_
  refine law_T5 (s := { s with heap := h5, toks := tk5 }) ok b ha hu hs S5 hl5 fun m6 h6 tk6 S6 hl6 => ?_
  have S6' := S4.back p5 S6 (led5_k0 _ _ _) led_bl
  have hl6' := LR.back S4 p5 hl6 (bc_C c).1
  refine consW ?_
  refine law_T6 (s := { s with heap := h6, toks := tk6 }) ok b d5 S6' hl6' fun m7 h7 tk7 S7 hl7 => ?_
  refine consW ?_
  refine law_T7 (s := { s with heap := h7, toks := tk7 }) ok b (sgn_ok c _) (fmod_lt _ (by decide)).1 (fmod_lt _ (by decide)).2 S7 hl7 fun h8 tk8 S8 => ?_
  exact nilW (k m7 h8 tk8 o5 _ d5 S8 (hl7.sub (sub_07 c _ _)))
end
end Mine
end

section
set_option maxRecDepth 100000
namespace Mine
open PySem PySem.W PyProof.Rows PySem.Calls PySem.SeqAt
theorem ev_r0 (σ : Sig) : R1.evs fiL loc0 lw_r0 σ = .ok [.int 0, .int 0] σ := by kernel_rfl
theorem ev_r1 (σ : Sig) : R1.evs fiL loc0 lw_r1 σ = .ok [.int (-5), .int 3] σ := by kernel_rfl
theorem ev_r2 (σ : Sig) : R1.evs fiL loc0 lw_r2 σ = .ok [.int 1000, .int 1] σ := by kernel_rfl
section
variable {P : Lw} {L cA : Addr} {Y Z : List (Addr × Obj)} {env : Env} {A : Around} {fr : List Env} {m : PySem.Str → Option Value} {ρ : List Addr} {s : Shared} {E : Value → Shared → Prop} {oc : Obj}
/-- one of the last three calls -/
theorem oth_expr (ok : LwOk P) (b : LB env A fr L cA) {es : PEs} {k sc : Int} {xp p : Pos} (he : ∀ σ, R1.evs fiL loc0 es σ = .ok [.int k, .int sc] σ) (hk : (absI k).natAbs < 10 ^ 19) (h1 : 0 ≤ sc) (h2 : sc < 9) {Q : Value → Shared → Prop}
    (S : St (gm 0) P.h₀ L m Y ρ ⟨led0, nxt0⟩ s.heap) (hl : LR (gm 0) env ρ loc0 m) (q : ∀ h' tk', St (gm 0) P.h₀ L m Y ρ ⟨led0, nxt0⟩ h' → Q (.bool true) { s with heap := h', toks := tk' }) :
    WP (model P.prog P.w) A (eval (.Call (.Name (nm v_law_others_right) xp) (toEs nm es) [] p) env) Q E s := by
  have So := (Lw.sound0 ok).toSound
  have cx := (b.cs0 P 0 Y).toCx
  refine WP.mk (Call_Name (starEach_plain nm _ env es) ?_)
  refine ev_same (W := P.W 0) (ih := R1) (e := .glb v_law_others_right _) So cx S hl (ev_oth _ _ _) fun f h3 tk3 S3 r3 => ?_
  cases r3
  refine callWith_k (K := hd.heap_39 P.w.params) (fnk_all P.w.params f_law_others_right) ?_
  refine So.evs (s := { s with heap := h3, toks := tk3 }) cx S3 hl ?_
  rw [he]
  intro ρ4 xs h4 tk4 p4 S4 r4
  have e4 : ρ4 = ρ := by
    obtain ⟨_, _, S3⟩ := S3
    obtain ⟨_, _, S4⟩ := S4
    exact (p4.eq_of_length (by rw [S3.len, S4.len])).symm
  subst e4
  cases r4 with | cons ra rest =>
  cases rest with | cons rb rest =>
  cases rest
  cases ra with | int _ t4 =>
  cases rb with | int _ t5 =>
  refine ⟨St.KIn (s := { s with heap := h4, toks := tk4 }) (Lw.sta ok (u := 0) (by decide)) S4, ?_⟩
  refine WP.un ?_
  exact oth_call (s := { s with heap := h4, toks := tk4 }) ok b hk h1 h2 S4 q
theorem law_R (ok : LwOk P) (b : LB env A fr L cA) {Q : Flow → Shared → Prop} (S : St (gm 0) P.h₀ L m Y ρ ⟨led0, nxt0⟩ s.heap) (hl : LR (gm 0) env ρ loc0 m)
    (q : ∀ h' tk', St (gm 0) P.h₀ L m Y ρ ⟨led0, nxt0⟩ h' → Q (.ret (.bool true)) { s with heap := h', toks := tk' }) : WP (model P.prog P.w) A (exec (lwRt nm) env) Q E s := by
  refine WP.mk (wpAny_Return_some ?_)
  refine BoolOp_and (WP.un ?_)
  refine oth_expr (es := lw_r0) ok b ev_r0 (by decide) (by decide) (by decide) S hl fun h1 tk1 S1 => ?_
  refine wpAny_truthy_bool ?_
  rw [if_pos rfl]
  refine BoolOp_and (WP.un ?_)
  refine oth_expr (s := { s with heap := h1, toks := tk1 }) (es := lw_r1) ok b ev_r1 (by decide) (by decide) (by decide) S1 hl fun h2 tk2 S2 => ?_
  refine wpAny_truthy_bool ?_
  rw [if_pos rfl]
  refine BoolOp_one (WP.un ?_)
  exact oth_expr (s := { s with heap := h2, toks := tk2 }) (es := lw_r2) ok b ev_r2 (by decide) (by decide) (by decide) S2 hl fun h3 tk3 S3 => q h3 tk3 S3
theorem St.rot {G : Mn} {h₀ h : Heap} {L : Addr} {m : PySem.Str → Option Value} {ρ : List Addr} {σ : Sig} {a b c : Addr} {o1 o2 o3 : Obj} (S : St G h₀ L m ((a, o1) :: (b, o2) :: (c, o3) :: Y) ρ σ h) : St G h₀ L m ((c, o3) :: (a, o1) :: (b, o2) :: Y) ρ σ h := S.swap2.swap
/-- the last loop -/
theorem law_3 (ok : LwOk P) (b : LB env A fr L cA) {a : Addr} {vs : List Value} {ns : List Int} (hL : P.h₀.IsList a vs.toArray) (hI : IntsAre vs ns) (hlen : ns.length ≤ 63) (hρ : ρ[0]? = some a) {v0 : Option Value} (hd : oc.data = .cell v0) {Q : Flow → Shared → Prop}
    (S : St (gm 0) P.h₀ L m ((cA, oc) :: Z) ρ ⟨led0, nxt0⟩ s.heap) (hl : LR (gm 0) env ρ loc0 m)
    (q : ∀ m' Y' h' tk', St (gm 0) P.h₀ L m' Y' ρ ⟨led0, nxt0⟩ h' → LR (gm 0) env ρ loc0 m' → Q .next { s with heap := h', toks := tk' }) : WP (model P.prog P.w) A (exec (lw3 nm) env) Q E s := by
  refine WP.mk (wpAny_For (WP.un ?_) (fun v => rfl))
  refine ev_i ok b hL hI hlen hρ S hl fun D its ms c h1 tk1 hits hlen6 S1 => ?_
  have hD1 : h1.get? D = some (PySem.W.listOf its.toArray c) := S1.side (fun q => by rcases q with ⟨_, _, q⟩ | ⟨_, q⟩ <;> cases q)
  refine wpAny_pyIter_list (s := { s with heap := h1, toks := tk1 }) ⟨_, hD1, rfl, c, rfl⟩ ?_
  dsimp only
  have S2 := ((S1.swap).aside { cls := .type "list_iterator", data := .fields #[.ref D, .int 0 0] } rfl).swap
  refine for_many its.length (fun j s' => ∃ m' h' tk' oc' v' o, s' = { s with heap := h', toks := tk' } ∧ oc'.data = .cell v' ∧ o.cls = .type "list_iterator" ∧ o.data = .fields #[.ref D, .int j 0] ∧
    St (gm 0) P.h₀ L m' ((cA, oc') :: (h1.objs.size, o) :: (D, PySem.W.listOf its.toArray c) :: Z) ρ ⟨led0, nxt0⟩ h' ∧ LR (gm 0) env ρ loc0 m') (fun j s' hj hP => ?_) (fun s' hP => ?_) ⟨m, _, tk1, oc, v0, _, rfl, hd, rfl, rfl, S2, hl⟩
  · obtain ⟨m2, h2, tk2, oc2, v2, o, rfl, d2, oC, oD, S2, hl2⟩ := hP
    have hit : h2.IsListIter h1.objs.size D j := ⟨o, S2.swap.side (nosl oD), oC, oD⟩
    have hDD : h2.get? D = some (PySem.W.listOf its.toArray c) := S2.rot.side (fun q => by rcases q with ⟨_, _, q⟩ | ⟨_, q⟩ <;> cases q)
    have hn : its[j]? = some its[j] := List.getElem?_eq_getElem hj
    refine wpAny_pyNext_list_item (s := { s with heap := h2, toks := tk2 }) hit ⟨_, hDD, rfl, c, rfl⟩ (x := its[j]) (by simpa using hn) fun h3 hit' hs => ⟨_, rfl, ?_⟩
    obtain ⟨o3, e1, e2, e3⟩ := hit'
    have S3 := (S2.swap.alter (o' := o3) (fun c ob hc hb => hs.extBut c ob hc hb) e1).swap
    obtain ⟨x, t, hx⟩ : ∃ x t, its[j] = .int x t := by
      have key : ∀ {ws : List Value} {ms : List Int}, IntsAre ws ms → ∀ j (hj : j < ws.length), ∃ x t, ws[j] = .int x t := by
        intro ws ms h
        induction h with
        | nil => intro j hj; cases hj
        | cons k t _ ih =>
          intro j hj
          cases j with
          | zero => exact ⟨k, t, rfl⟩
          | succ j => exact ih j (Nat.lt_of_succ_lt_succ hj)
      exact key hits j hj
    refine wpAny_of_eq (show letOwnedTupleGo (.Name (nm v_cell) _) (.ref h1.objs.size) its[j] = pure () from rfl) (wpAny_assign_Name ?_)
    rw [hx]
    refine store_sound (W := P.W 0) (s := { s with heap := h3, toks := tk2 }) (b.cs0 P 0 _).toCx S3 hl2 (x := v_cell) (a := .int x) rfl (.int x t) fun h4 m4 S4 hl4 => ?_
    refine WP.un ?_
    exact law_B (s := { s with heap := h4, toks := tk2 + 1 }) ok b d2 S4 hl4 fun m5 h5 tk5 oc5 v5 d5 S5 hl5 => ⟨rfl, m5, h5, tk5, oc5, v5, o3, rfl, d5, e2, e3, S5, hl5⟩
  · obtain ⟨m2, h2, tk2, oc2, v2, o, rfl, d2, oC, oD, S2, hl2⟩ := hP
    have hit : h2.IsListIter h1.objs.size D its.length := ⟨o, S2.swap.side (nosl oD), oC, oD⟩
    have hDD : h2.get? D = some (PySem.W.listOf its.toArray c) := S2.rot.side (fun q => by rcases q with ⟨_, _, q⟩ | ⟨_, q⟩ <;> cases q)
    refine wpAny_pyNext_list_end (s := { s with heap := h2, toks := tk2 }) b.hd hit ⟨_, hDD, rfl, c, rfl⟩ (by simp) fun h3 he => ⟨rfl, ?_⟩
    exact q m2 _ h3 tk2 (S2.swap.forget fun c ob hc hb => he c ob hc hb) hl2
/-- the whole law -/
theorem law_all (ok : LwOk P) (b : LB env A fr L cA) {a : Addr} {vs : List Value} {ns : List Int} (hL : P.h₀.IsList a vs.toArray) (hI : IntsAre vs ns) (hlen : ns.length ≤ 63) (F : Fr P.h₀ L s.heap m) (hm : m (nm v_script) = some (.ref a)) (N : News P.h₀ L s.heap [(cA, oc)]) {v0 : Option Value} (hd : oc.data = .cell v0) :
    WP (model P.prog P.w) A (execs (lawStmts nm) env) (fun f s' => f = .ret (.bool true) ∧ ∃ L m h tk, Fr P.h₀ L h m ∧ s' = { s with heap := h, toks := tk }) E s := by
  have S0 : St (gm 0) P.h₀ L m [(cA, oc)] [a] ⟨[], 1⟩ s.heap := ⟨[], [(cA, oc)], rfl, F, N, by simp, .nil, .cons ⟨rfl, .inl rfl⟩ .nil⟩
  have hl0 : LR (gm 0) env [a] [(v_script, .ref 0)] m := by
    intro x w e
    have e : (bif Nat.beq v_script x then some (AV.ref 0) else none) = some w := e
    cases z : Nat.beq v_script x with
    | false => rw [z] at e; cases e
    | true =>
      rw [z] at e
      cases e
      have := Nat.eq_of_beq_eq_true z
      subst this
      exact ⟨b.li v_script (by kernel_rfl), _, hm, .ref rfl⟩
  have So := Lw.sound0 ok
  have c := b.cs0 P 0 [(cA, oc)]
  show WP _ _ (execs [toS nm lw_rows, toS nm lw_pics, lw1 nm, lw2 nm, lw3 nm, lwRt nm] env) _ _ _
  refine consW (WP.mk ?_)
  refine So.ex c S0 hl0 ?_
  rw [pre_1]
  intro ρ1 m1 h1 tk1 p1 S1 hl1
  refine consW (WP.mk ?_)
  refine So.ex (s := { s with heap := h1, toks := tk1 }) c S1 hl1 ?_
  rw [pre_2]
  intro ρ2 m2 h2 tk2 p2 S2 hl2
  have hρ : ρ2[0]? = some a := pre_get (p1.trans p2) rfl
  refine consW ?_
  refine law_1 (s := { s with heap := h2, toks := tk2 }) ok b S2 hl2 fun m3 h3 tk3 S3 hl3 => ?_
  refine consW ?_
  refine law_2 (s := { s with heap := h3, toks := tk3 }) ok b S3 hl3 fun m4 h4 tk4 S4 hl4 => ?_
  refine consW ?_
  refine law_3 (s := { s with heap := h4, toks := tk4 }) ok b hL hI hlen hρ hd S4 hl4 fun m5 Y5 h5 tk5 S5 hl5 => ?_
  refine consW ?_
  refine law_R (s := { s with heap := h5, toks := tk5 }) ok b S5 hl5 fun h6 tk6 S6 => ?_
  obtain ⟨_, _, S6⟩ := S6
  exact ⟨rfl, L, m5, h6, tk6, S6.F, rfl⟩
end
end Mine
end

section
set_option maxRecDepth 100000
namespace Mine
open PySem PySem.W PyProof.Rows PySem.Calls PySem.SeqAt
theorem execs_cast {M : Model} {A : Around} {env : Env} {b b' : List Stmt} {Q : Flow → Shared → Prop} {E : Value → Shared → Prop} {s : Shared} (e : b = b') (h : wpAny M A (execs b' env) Q E s) : wpAny M A (execs b env) Q E s := by rw [e]; exact h
/-- what the law's own scope must say -/
noncomputable def scOK (sc : Scope) : Bool :=
  (sc.kind == .function) && lw_locs.all (fun x => sc.names.lookup (nm x) == some .local) && lw_glbs.all (fun x => sc.names.lookup (nm x) == some .globalImplicit) && (sc.names.lookup (nm v_rest) == some .cell)
theorem scOK_all {sc : Scope} (h : scOK sc = true) : sc.kind = .function ∧ (∀ x, nelem lw_locs x = true → sc.names.lookup (nm x) = some .local) ∧ (∀ x, nelem lw_glbs x = true → sc.names.lookup (nm x) = some .globalImplicit) ∧ sc.names.lookup (nm v_rest) = some .cell := by
  unfold scOK at h
  rw [Bool.and_eq_true, Bool.and_eq_true, Bool.and_eq_true] at h
  obtain ⟨⟨⟨h1, h2⟩, h3⟩, h4⟩ := h
  refine ⟨by simpa using h1, fun x hx => ?_, fun x hx => ?_, by simpa using h4⟩
  · rw [nelem_iff, decide_eq_true_eq] at hx
    simpa using List.all_eq_true.mp h2 x hx
  · rw [nelem_iff, decide_eq_true_eq] at hx
    simpa using List.all_eq_true.mp h3 x hx
theorem law_lb {q : PySem.Str} {sc : Scope} {L fa cA : Addr} {cd : Value} (h : scOK sc = true) (hc : (cellsFrom (L + 1) sc.names []).lookup (nm v_rest) = some cA) :
    LB (envOfC q sc L fa cd) (callerA.deeper (envOfC q sc L fa cd)) [envOfC q sc L fa cd] L cA := by
  obtain ⟨h1, h2, h3, h4⟩ := scOK_all h
  exact
  { fk := h1
    lo := rfl
    gl := rfl
    bu := rfl
    li := h2
    gi := h3
    un := by show 4 + 3 + 3000 < 9900; decide
    hd := rfl
    dp := by show 1 + 300 + 1 + 120 < 1000; decide
    fs := rfl
    ff := fun e he => by
      rw [List.mem_singleton] at he
      subst he
      exact ⟨(by show sc.kind ≠ _; rw [h1]; decide), rfl⟩
    ef := rfl
    fe := ⟨_, rfl⟩
    ck := h4
    cl := hc }
theorem law_end {prog : Program} {w : World} {p : Program} {loose : List PySem.Str} {mg mb : PySem.Str → Option Value} {s : Shared} {h₁ : Heap} {tk : Tok} {q : PySem.Str} {sc : Scope} {fa a : Addr} {cd : Value} {vs : List Value} {ns : List Int} {m : PySem.Str → Option Value} {oc : Obj} {v0 : Option Value} {Q : Flow → Shared → Prop} {E : Value → Shared → Prop}
    (X : (hd.heap_39 w.params).In s.heap) (T : TopRead p loose mg mb s.heap) (F : Fr s.heap s.heap.objs.size h₁ m) (N : News s.heap s.heap.objs.size h₁ [(s.heap.objs.size + 1, oc)]) (hd : oc.data = .cell v0) (hL : s.heap.IsList a vs.toArray) (hI : IntsAre vs ns) (hlen : ns.length ≤ 63)
    (hm : m (nm v_script) = some (.ref a)) (hs : scOK sc = true) (hc : (cellsFrom (s.heap.objs.size + 1) sc.names []).lookup (nm v_rest) = some (s.heap.objs.size + 1))
    (k : ∀ L m h tk, Fr s.heap L h m → Q (.ret (.bool true)) { s with heap := h, toks := tk }) :
    wpAny (model prog w) (callerA.deeper (envOfC q sc s.heap.objs.size fa cd)) (execs (lawStmts nm) (envOfC q sc s.heap.objs.size fa cd)) Q E { s with heap := h₁, toks := tk } := by
  refine wpAny_mono (WP.un (law_all (P := ⟨prog, w, p, loose, mg, mb, s.heap⟩) (s := { s with heap := h₁, toks := tk }) (E := fun _ _ => False) ⟨X, T⟩ (law_lb hs hc) hL hI hlen F hm N hd)) (fun f s' hq => ?_) (fun _ _ x => x.elim)
  obtain ⟨rfl, L, m', h', tk', F', rfl⟩ := hq
  exact k L m' h' tk' F'
end Mine
end

set_option maxRecDepth 100000 in
set_option maxHeartbeats 8000000 in
theorem PySem.Challenge.cw_pc0135_01_holds : PySem.Challenge.rw_pc0135_01.Holds := by
  refine Mine.hd ?_
  k_go0
  refine Mine.execs_cast (b' := Mine.lawStmts Mine.nm) (by kernel_rfl) ?_
  rename (Mine.hd.heap_39 _).In _ => X
  rename Top _ _ _ _ _ _ => T
  rename Fr _ _ _ _ => F
  rename News _ _ _ _ => N
  rename Heap.IsList _ _ _ => hL
  rename IntsAre _ _ => hI
  rename _ = #[] => hg
  rename ¬ _ < _ => hc
  rename _ = Data.cell _ => hd1
  refine Mine.law_end X (topRead_of T) F N hd1 hL hI (by omega) ?_ ?_ ?_ ?_
  · kernel_rfl
  · kernel_rfl
  · kernel_rfl
  · intro L m h tk F2
    refine goodW_bool F2 hg (fun cls => rfl) ?_ (hos := rfl)
    kernel_rfl
