import PyProof.Rows.All
import Wide.All
import OpenK.AllK
import Wide.FinOn
import PySem.Challenge.RW_sq0028_01
open PySem PySem.W PyProof.Rows
set_option Elab.async false
set_option linter.unusedVariables false
set_option linter.unusedSimpArgs false
set_option maxRecDepth 100000
set_option maxHeartbeats 8000000
namespace Mine
/- The head is run twice. The first run is thrown away: each of its helpers would lay a twin of an object, but the twin's name is taken by a theorem Hq.tw..,
so that the second run lays none (the twins alone make the compiled file too big). -/
theorem Hq.tw10021712297997036571 : True := trivial
theorem Hq.tw1004215086500951176 : True := trivial
theorem Hq.tw10114506441570049628 : True := trivial
theorem Hq.tw10172455023675120284 : True := trivial
theorem Hq.tw1026593398190053551 : True := trivial
theorem Hq.tw10300482637166057616 : True := trivial
theorem Hq.tw10305769345413688928 : True := trivial
theorem Hq.tw10342192080690971669 : True := trivial
theorem Hq.tw10385565798441225317 : True := trivial
theorem Hq.tw10388853831299771820 : True := trivial
theorem Hq.tw10449604931791920416 : True := trivial
theorem Hq.tw10460582248621749466 : True := trivial
theorem Hq.tw10572643925239612486 : True := trivial
theorem Hq.tw10779594247348603292 : True := trivial
theorem Hq.tw10802566279192002995 : True := trivial
theorem Hq.tw10814000355644638048 : True := trivial
theorem Hq.tw10875931090891710709 : True := trivial
theorem Hq.tw10899406630876998589 : True := trivial
theorem Hq.tw10947082805121250332 : True := trivial
theorem Hq.tw1102876400847583216 : True := trivial
theorem Hq.tw1117827446495165091 : True := trivial
theorem Hq.tw11194136950925538259 : True := trivial
theorem Hq.tw11205020154435594954 : True := trivial
theorem Hq.tw11240929519713685490 : True := trivial
theorem Hq.tw11278875968151568762 : True := trivial
theorem Hq.tw11289715760238226489 : True := trivial
theorem Hq.tw11375154911318458282 : True := trivial
theorem Hq.tw11456108301458504794 : True := trivial
theorem Hq.tw11460736893053852253 : True := trivial
theorem Hq.tw11570708319973515803 : True := trivial
theorem Hq.tw11610361710049373319 : True := trivial
theorem Hq.tw11654227206290310441 : True := trivial
theorem Hq.tw11659353360899582992 : True := trivial
theorem Hq.tw11659651281534631235 : True := trivial
theorem Hq.tw11699596758457385270 : True := trivial
theorem Hq.tw11823381703982722496 : True := trivial
theorem Hq.tw11847094614263936504 : True := trivial
theorem Hq.tw11890006451817677342 : True := trivial
theorem Hq.tw11900189728044919427 : True := trivial
theorem Hq.tw11909292446136964273 : True := trivial
theorem Hq.tw12071433309458071118 : True := trivial
theorem Hq.tw12094463891801630823 : True := trivial
theorem Hq.tw12104733176895403364 : True := trivial
theorem Hq.tw12160056435546341379 : True := trivial
theorem Hq.tw12279630926755038121 : True := trivial
theorem Hq.tw12339406767414495247 : True := trivial
theorem Hq.tw12371883369117219041 : True := trivial
theorem Hq.tw12386548897578495507 : True := trivial
theorem Hq.tw12467759701312421867 : True := trivial
theorem Hq.tw12585559750747082609 : True := trivial
theorem Hq.tw12689088302150796224 : True := trivial
theorem Hq.tw12740457357775436096 : True := trivial
theorem Hq.tw1277137660904256135 : True := trivial
theorem Hq.tw12860470265886380310 : True := trivial
theorem Hq.tw12934337478414955262 : True := trivial
theorem Hq.tw12936102315532113301 : True := trivial
theorem Hq.tw1294726959131229672 : True := trivial
theorem Hq.tw1301468239196549442 : True := trivial
theorem Hq.tw13036204486734789757 : True := trivial
theorem Hq.tw13113965676818596590 : True := trivial
theorem Hq.tw13121034131498769843 : True := trivial
theorem Hq.tw13130195416875873778 : True := trivial
theorem Hq.tw13198761918834411470 : True := trivial
theorem Hq.tw13216895115279508797 : True := trivial
theorem Hq.tw13252378984341678564 : True := trivial
theorem Hq.tw13417861664046093065 : True := trivial
theorem Hq.tw13431215881604364548 : True := trivial
theorem Hq.tw13476050110370532614 : True := trivial
theorem Hq.tw13478516746253684946 : True := trivial
theorem Hq.tw13524258886877130744 : True := trivial
theorem Hq.tw13525343435595413918 : True := trivial
theorem Hq.tw1355701815190686378 : True := trivial
theorem Hq.tw13698797255416392127 : True := trivial
theorem Hq.tw13761885265265457219 : True := trivial
theorem Hq.tw13783622779732686940 : True := trivial
theorem Hq.tw13952159838441082441 : True := trivial
theorem Hq.tw13974173069208363202 : True := trivial
theorem Hq.tw1400507112283419800 : True := trivial
theorem Hq.tw14007558416541303141 : True := trivial
theorem Hq.tw14253033842533096602 : True := trivial
theorem Hq.tw14256731367899361702 : True := trivial
theorem Hq.tw14268567416259264521 : True := trivial
theorem Hq.tw14333923518698725455 : True := trivial
theorem Hq.tw14438082902382830921 : True := trivial
theorem Hq.tw14463242859899958038 : True := trivial
theorem Hq.tw14520366689776658573 : True := trivial
theorem Hq.tw14640793072173668718 : True := trivial
theorem Hq.tw14765238906279203774 : True := trivial
theorem Hq.tw14807503177907413287 : True := trivial
theorem Hq.tw14848611373958266251 : True := trivial
theorem Hq.tw14930096647769499035 : True := trivial
theorem Hq.tw15031696627473049693 : True := trivial
theorem Hq.tw15060271983346720987 : True := trivial
theorem Hq.tw15064567909282816629 : True := trivial
theorem Hq.tw15100381460329542831 : True := trivial
theorem Hq.tw15150718275382116027 : True := trivial
theorem Hq.tw15161214968901469647 : True := trivial
theorem Hq.tw15218955943139680115 : True := trivial
theorem Hq.tw15240173366061436840 : True := trivial
theorem Hq.tw15245321967983369702 : True := trivial
theorem Hq.tw15298368436180796737 : True := trivial
theorem Hq.tw15368608225368098802 : True := trivial
theorem Hq.tw15442678100036574066 : True := trivial
theorem Hq.tw15483681702297441787 : True := trivial
theorem Hq.tw15536513256846802371 : True := trivial
theorem Hq.tw15572787175248087761 : True := trivial
theorem Hq.tw15575390694414051083 : True := trivial
theorem Hq.tw15601571978261149155 : True := trivial
theorem Hq.tw15631485620684486142 : True := trivial
theorem Hq.tw15637886829628978145 : True := trivial
theorem Hq.tw15658749018952061668 : True := trivial
theorem Hq.tw15662753296643968412 : True := trivial
theorem Hq.tw1569590657882697123 : True := trivial
theorem Hq.tw15697548593798165325 : True := trivial
theorem Hq.tw15701661142617233213 : True := trivial
theorem Hq.tw15750594967475512809 : True := trivial
theorem Hq.tw15796654787826674343 : True := trivial
theorem Hq.tw15827230030052750978 : True := trivial
theorem Hq.tw15888919374997141929 : True := trivial
theorem Hq.tw15906758728827372971 : True := trivial
theorem Hq.tw15922686615417395377 : True := trivial
theorem Hq.tw15992288814781181464 : True := trivial
theorem Hq.tw15996885716988011710 : True := trivial
theorem Hq.tw16008122992868765552 : True := trivial
theorem Hq.tw16020810255012119630 : True := trivial
theorem Hq.tw1602577915714152771 : True := trivial
theorem Hq.tw16048243275963956334 : True := trivial
theorem Hq.tw1609198898381336080 : True := trivial
theorem Hq.tw16100557326463067989 : True := trivial
theorem Hq.tw16114254255223019350 : True := trivial
theorem Hq.tw1616977705048163374 : True := trivial
theorem Hq.tw16185976605184917519 : True := trivial
theorem Hq.tw16194377193112619755 : True := trivial
theorem Hq.tw16201783173964544934 : True := trivial
theorem Hq.tw16205180933317817640 : True := trivial
theorem Hq.tw16268852704500529501 : True := trivial
theorem Hq.tw16385050948634433055 : True := trivial
theorem Hq.tw16390736505392879819 : True := trivial
theorem Hq.tw16432917438001205674 : True := trivial
theorem Hq.tw16451567145096519502 : True := trivial
theorem Hq.tw16482665544723459314 : True := trivial
theorem Hq.tw16509719902720092117 : True := trivial
theorem Hq.tw16551145434958727613 : True := trivial
theorem Hq.tw16554288371857740753 : True := trivial
theorem Hq.tw16689997327457088901 : True := trivial
theorem Hq.tw16854496447585407013 : True := trivial
theorem Hq.tw16916785843749820227 : True := trivial
theorem Hq.tw1698452946959907609 : True := trivial
theorem Hq.tw17015285968632875403 : True := trivial
theorem Hq.tw17141988182366899314 : True := trivial
theorem Hq.tw17242138169228639630 : True := trivial
theorem Hq.tw17277130242583880468 : True := trivial
theorem Hq.tw17305436852248362484 : True := trivial
theorem Hq.tw17313246585661179489 : True := trivial
theorem Hq.tw17404241325817220473 : True := trivial
theorem Hq.tw17424793496063146377 : True := trivial
theorem Hq.tw17436825004934361270 : True := trivial
theorem Hq.tw17479738516066292455 : True := trivial
theorem Hq.tw17582580183635278788 : True := trivial
theorem Hq.tw1761256310111350823 : True := trivial
theorem Hq.tw17668768413339844949 : True := trivial
theorem Hq.tw17674983811999386410 : True := trivial
theorem Hq.tw17856122132277131653 : True := trivial
theorem Hq.tw17879550979180175952 : True := trivial
theorem Hq.tw17893153714660385658 : True := trivial
theorem Hq.tw17935027878555802291 : True := trivial
theorem Hq.tw17948765704568425486 : True := trivial
theorem Hq.tw18007853995697515830 : True := trivial
theorem Hq.tw18011084061055004950 : True := trivial
theorem Hq.tw18204508646464358439 : True := trivial
theorem Hq.tw18210983457491247041 : True := trivial
theorem Hq.tw18251380020935931282 : True := trivial
theorem Hq.tw18255647902859162010 : True := trivial
theorem Hq.tw18336425103521358518 : True := trivial
theorem Hq.tw18427750388886781610 : True := trivial
theorem Hq.tw18440859659979203679 : True := trivial
theorem Hq.tw186381837477396438 : True := trivial
theorem Hq.tw1917042671931545912 : True := trivial
theorem Hq.tw1985646734831382700 : True := trivial
theorem Hq.tw2005414085270333745 : True := trivial
theorem Hq.tw2064704688483567928 : True := trivial
theorem Hq.tw2200780426063447057 : True := trivial
theorem Hq.tw2205894012802976333 : True := trivial
theorem Hq.tw2215474949753767513 : True := trivial
theorem Hq.tw2337267166873952418 : True := trivial
theorem Hq.tw2374048383146111181 : True := trivial
theorem Hq.tw2382893452698060213 : True := trivial
theorem Hq.tw2388205214424046260 : True := trivial
theorem Hq.tw2494243675434341204 : True := trivial
theorem Hq.tw2548119716629699912 : True := trivial
theorem Hq.tw2580983413453886388 : True := trivial
theorem Hq.tw2815999283915393790 : True := trivial
theorem Hq.tw2900762458475979918 : True := trivial
theorem Hq.tw2926062449507725633 : True := trivial
theorem Hq.tw2938950448917994878 : True := trivial
theorem Hq.tw3116423343115983247 : True := trivial
theorem Hq.tw3119921749765556528 : True := trivial
theorem Hq.tw3133829180664623186 : True := trivial
theorem Hq.tw3243516123840576196 : True := trivial
theorem Hq.tw3251781315507188299 : True := trivial
theorem Hq.tw3296105981521345396 : True := trivial
theorem Hq.tw3336882331266937679 : True := trivial
theorem Hq.tw3350629978583134391 : True := trivial
theorem Hq.tw3353959328035584129 : True := trivial
theorem Hq.tw3510560618651699403 : True := trivial
theorem Hq.tw3545780787721612419 : True := trivial
theorem Hq.tw3559866900117325801 : True := trivial
theorem Hq.tw3640974105935693290 : True := trivial
theorem Hq.tw3649741526688132082 : True := trivial
theorem Hq.tw3739334263572889074 : True := trivial
theorem Hq.tw3806399643338762091 : True := trivial
theorem Hq.tw383971573476042578 : True := trivial
theorem Hq.tw3894359874363851075 : True := trivial
theorem Hq.tw4032996984003989745 : True := trivial
theorem Hq.tw4036336910453704666 : True := trivial
theorem Hq.tw4041028791718133749 : True := trivial
theorem Hq.tw4074431811429890533 : True := trivial
theorem Hq.tw4097333836204539984 : True := trivial
theorem Hq.tw4138779402432809356 : True := trivial
theorem Hq.tw4184563904940665830 : True := trivial
theorem Hq.tw427289081448734723 : True := trivial
theorem Hq.tw4375853855844871661 : True := trivial
theorem Hq.tw4429970023229414869 : True := trivial
theorem Hq.tw4432408635265185890 : True := trivial
theorem Hq.tw445651127727618674 : True := trivial
theorem Hq.tw4472153422556541039 : True := trivial
theorem Hq.tw4518937810632913562 : True := trivial
theorem Hq.tw4646846925793416190 : True := trivial
theorem Hq.tw4750672203205973548 : True := trivial
theorem Hq.tw4778665125257850629 : True := trivial
theorem Hq.tw4793948211673410587 : True := trivial
theorem Hq.tw4946339626325526391 : True := trivial
theorem Hq.tw5065893774309495231 : True := trivial
theorem Hq.tw512181466038442831 : True := trivial
theorem Hq.tw5194197275829010296 : True := trivial
theorem Hq.tw5206097609956960483 : True := trivial
theorem Hq.tw5222486677431444885 : True := trivial
theorem Hq.tw5225625305570481928 : True := trivial
theorem Hq.tw5437069376655728542 : True := trivial
theorem Hq.tw5687776731536340698 : True := trivial
theorem Hq.tw5726433194946409186 : True := trivial
theorem Hq.tw5849178027504091238 : True := trivial
theorem Hq.tw5913550389890696985 : True := trivial
theorem Hq.tw5939192005501239931 : True := trivial
theorem Hq.tw6040017901077204915 : True := trivial
theorem Hq.tw6043073101327296405 : True := trivial
theorem Hq.tw6047431978922127573 : True := trivial
theorem Hq.tw6058711024399785597 : True := trivial
theorem Hq.tw6066889620742739135 : True := trivial
theorem Hq.tw6133340171014604875 : True := trivial
theorem Hq.tw6177968567174700675 : True := trivial
theorem Hq.tw619166490401883698 : True := trivial
theorem Hq.tw6390827057886633400 : True := trivial
theorem Hq.tw6402876820213857361 : True := trivial
theorem Hq.tw6403678235694407468 : True := trivial
theorem Hq.tw6415230678609274001 : True := trivial
theorem Hq.tw6417572316079730064 : True := trivial
theorem Hq.tw643217099429039837 : True := trivial
theorem Hq.tw6533113798824814246 : True := trivial
theorem Hq.tw6669188687924364760 : True := trivial
theorem Hq.tw679875687825543052 : True := trivial
theorem Hq.tw6935042200489368058 : True := trivial
theorem Hq.tw6977737570742368676 : True := trivial
theorem Hq.tw7000259744790304130 : True := trivial
theorem Hq.tw7020989531945987418 : True := trivial
theorem Hq.tw708642437636990529 : True := trivial
theorem Hq.tw708688584957966128 : True := trivial
theorem Hq.tw7095538561240742533 : True := trivial
theorem Hq.tw7119533841099048536 : True := trivial
theorem Hq.tw7184882292617358021 : True := trivial
theorem Hq.tw7272986055354980272 : True := trivial
theorem Hq.tw7369936078629690721 : True := trivial
theorem Hq.tw7420934524765720163 : True := trivial
theorem Hq.tw7512318897771395175 : True := trivial
theorem Hq.tw7522841961589019106 : True := trivial
theorem Hq.tw7569377758329015802 : True := trivial
theorem Hq.tw7679202067442333269 : True := trivial
theorem Hq.tw7684923376475061002 : True := trivial
theorem Hq.tw7696883939434577851 : True := trivial
theorem Hq.tw7709331679756043011 : True := trivial
theorem Hq.tw7748525628245484911 : True := trivial
theorem Hq.tw7891535111666313282 : True := trivial
theorem Hq.tw7926242306314254293 : True := trivial
theorem Hq.tw792865650355827043 : True := trivial
theorem Hq.tw7940811965015359818 : True := trivial
theorem Hq.tw795207182584033250 : True := trivial
theorem Hq.tw7986342848023336810 : True := trivial
theorem Hq.tw8013136709078805873 : True := trivial
theorem Hq.tw803874479395036973 : True := trivial
theorem Hq.tw8057448667784340757 : True := trivial
theorem Hq.tw8063872636580693705 : True := trivial
theorem Hq.tw8148104608884539860 : True := trivial
theorem Hq.tw8154945427508690334 : True := trivial
theorem Hq.tw8213998512474141290 : True := trivial
theorem Hq.tw8226380593590806676 : True := trivial
theorem Hq.tw8248484751001102074 : True := trivial
theorem Hq.tw8254226564777381326 : True := trivial
theorem Hq.tw825760564528177394 : True := trivial
theorem Hq.tw8375425266467287964 : True := trivial
theorem Hq.tw8517324468990797819 : True := trivial
theorem Hq.tw8539997789468004732 : True := trivial
theorem Hq.tw8582664700788566422 : True := trivial
theorem Hq.tw8619246595891150736 : True := trivial
theorem Hq.tw8669485591691110825 : True := trivial
theorem Hq.tw8677292051737910134 : True := trivial
theorem Hq.tw8822831162620408327 : True := trivial
theorem Hq.tw8858317504329024612 : True := trivial
theorem Hq.tw8862619542355635106 : True := trivial
theorem Hq.tw9163964588261987919 : True := trivial
theorem Hq.tw9180661086565938152 : True := trivial
theorem Hq.tw922098901436765786 : True := trivial
theorem Hq.tw9286631046372962142 : True := trivial
theorem Hq.tw9303545270067678814 : True := trivial
theorem Hq.tw9353564354202309398 : True := trivial
theorem Hq.tw9453491056152953368 : True := trivial
theorem Hq.tw9595819074235944350 : True := trivial
theorem Hq.tw9705968827578132754 : True := trivial
theorem Hq.tw9720339837119878434 : True := trivial
theorem Hq.tw9781557771626124799 : True := trivial
theorem Hq.tw9785630571323403029 : True := trivial
theorem Hq.tw9990845017624857655 : True := trivial
set_option Elab.async true in
theorem Hq : True := by
  first
  | set_option Elab.async false in exact (fun _ => trivial : PySem.Challenge.rw_sq0028_01.Holds → True) (with_decl_name% Mine.Hq.hd ((by (w_on; o_law; k_head; (case hw => w_witness2); fail) : PySem.Challenge.rw_sq0028_01.Holds) :))
  | trivial
theorem Hq.ends : True := trivial
namespace Hq
open_top hd for PySem.Challenge.rw_sq0028_01
end Hq
end Mine
open PySem.Calls
namespace Mine

abbrev P : Program := PySem.Challenge.pw_sq0028_01
noncomputable abbrev Kf (w : World) : Frag := Hq.hd.heap_39 w.params

inductive V where
  | none
  | bool (b : Bool)
  | int (i : Int)
  | str (s : Str)
  | tup (xs : List V)
  | ref (a : Addr)
  | con (v : Value)

abbrev tupO (vs : Array Value) (n : Nat) : Obj := { cls := .type "tuple", data := .seq vs n }
abbrev lstO (vs : Array Value) (n : Nat) : Obj := { cls := .type "list", data := .seq vs n }
mutual
inductive RepV (h : Heap) : V → Value → Prop
  | none : RepV h .none .none
  | bool (b : Bool) : RepV h (.bool b) (.bool b)
  | int (i : Int) (t : Tok) : RepV h (.int i) (.int i t)
  | str (s : Str) (t : Tok) : RepV h (.str s) (.str s t)
  | tup {a : Addr} {vs : Array Value} {n : Nat} {xs : List V} : h.get? a = some (tupO vs n) → RepVs h xs vs.toList → RepV h (.tup xs) (.ref a)
  | ref (a : Addr) : RepV h (.ref a) (.ref a)
  | con (v : Value) : RepV h (.con v) v
inductive RepVs (h : Heap) : List V → List Value → Prop
  | nil : RepVs h [] []
  | cons {x : V} {v : Value} {xs : List V} {vs : List Value} : RepV h x v → RepVs h xs vs → RepVs h (x :: xs) (v :: vs)
end

/-- tuples stay -/
def St (h h' : Heap) : Prop := ∀ a vs n, h.get? a = some (tupO vs n) → h'.get? a = some (tupO vs n)
theorem St.refl (h : Heap) : St h h := fun _ _ _ e => e
theorem St.trans {a b c : Heap} (x : St a b) (y : St b c) : St a c := fun t vs n e => y t vs n (x t vs n e)
theorem St.keeps {h h' : Heap} (k : ∀ b o, h.get? b = some o → h'.get? b = some o) : St h h' := fun _ _ _ e => k _ _ e
theorem St.but {h h' : Heap} {l : Addr} {o₀ : Obj} (ho : h.get? l = some o₀) (hc : ∀ vs n, o₀ ≠ tupO vs n) (k : ∀ b o, b ≠ l → h.get? b = some o → h'.get? b = some o) : St h h' := fun a vs n e => by
  by_cases q : a = l
  · subst q; rw [ho] at e; cases e; exact (hc vs n rfl).elim
  · exact k _ _ q e

mutual
theorem RepV.st {h h' : Heap} (s : St h h') : ∀ {x : V} {v : Value}, RepV h x v → RepV h' x v
  | _, _, .none => .none
  | _, _, .bool b => .bool b
  | _, _, .int i t => .int i t
  | _, _, .str i t => .str i t
  | _, _, .tup e r => .tup (s _ _ _ e) (RepVs.st s r)
  | _, _, .ref a => .ref a
  | _, _, .con v => .con v
theorem RepVs.st {h h' : Heap} (s : St h h') : ∀ {xs : List V} {vs : List Value}, RepVs h xs vs → RepVs h' xs vs
  | _, _, .nil => .nil
  | _, _, .cons a b => .cons (RepV.st s a) (RepVs.st s b)
end
theorem RepVs.length {h : Heap} {xs : List V} : ∀ {vs : List Value}, RepVs h xs vs → vs.length = xs.length := by
  induction xs with
  | nil => intro vs r; cases r; rfl
  | cons x xs ih => intro vs r; cases r with | cons a b => simp [ih b]
theorem RepVs.get {h : Heap} {xs : List V} : ∀ {vs : List Value} {i : Nat} {x : V}, RepVs h xs vs → xs[i]? = some x → ∃ v, vs[i]? = some v ∧ RepV h x v := by
  induction xs with
  | nil => intro vs i x r e; simp at e
  | cons y xs ih =>
    intro vs i x r e
    cases r with
    | cons a b =>
      cases i with
      | zero => simp at e; subst e; exact ⟨_, rfl, a⟩
      | succ i => simp at e; simpa using ih b e
theorem RepVs.append {h : Heap} {xs ys : List V} : ∀ {vs ws : List Value}, RepVs h xs vs → RepVs h ys ws → RepVs h (xs ++ ys) (vs ++ ws) := by
  induction xs with
  | nil => intro vs ws r s; cases r; exact s
  | cons y xs ih => intro vs ws r s; cases r with | cons a b => exact .cons a (ih b s)
theorem RepVs.take {h : Heap} {xs : List V} : ∀ {vs : List Value} (n : Nat), RepVs h xs vs → RepVs h (xs.take n) (vs.take n) := by
  induction xs with
  | nil => intro vs n r; cases r; simp; exact .nil
  | cons y xs ih => intro vs n r; cases r with | cons a b => cases n with
    | zero => exact .nil
    | succ n => exact .cons a (ih n b)
theorem RepVs.drop {h : Heap} {xs : List V} : ∀ {vs : List Value} (n : Nat), RepVs h xs vs → RepVs h (xs.drop n) (vs.drop n) := by
  induction xs with
  | nil => intro vs n r; cases r; simp; exact .nil
  | cons y xs ih => intro vs n r; cases r with | cons a b => cases n with
    | zero => exact .cons a b
    | succ n => exact ih n b
theorem RepVs.reverse {h : Heap} {xs : List V} : ∀ {vs : List Value}, RepVs h xs vs → RepVs h xs.reverse vs.reverse := by
  induction xs with
  | nil => intro vs r; cases r; exact .nil
  | cons y xs ih => intro vs r; cases r with | cons a b => simp only [List.reverse_cons]; exact (ih b).append (.cons a .nil)

inductive O where
  | lst (xs : List V)
  | inst (C dx : Addr)
  | exc (C : Addr) (t : Value) (b : Bool)
  | dict (fs : List (Str × V))
  | cell (v : Option V)
abbrev Sto := Addr → Option O
abbrev Loc := List (Str × V)

def RepM (h : Heap) (m : Str → Option Value) (l : Loc) : Prop := ∀ x v, l.lookup x = some v → ∃ v', m x = some v' ∧ RepV h v v'
theorem RepM.st {h h' : Heap} (s : St h h') {m : Str → Option Value} {l : Loc} (r : RepM h m l) : RepM h' m l := fun x v e => let ⟨v', a, b⟩ := r x v e; ⟨v', a, b.st s⟩
def RepF (h : Heap) (L : Addr) (l : Loc) : Prop := ∃ m, h.Ns L m ∧ RepM h m l

def RepO (h : Heap) (a : Addr) : O → Prop
  | .lst xs => ∃ vs n, h.get? a = some (lstO vs n) ∧ RepVs h xs vs.toList
  | .inst C dx => ∃ o, h.get? a = some o ∧ o.cls = .ref C ∧ o.dict = some dx ∧ (∀ c, o.data ≠ .cls c) ∧ dx ≠ a
  | .exc C t b => ∃ o, h.get? a = some o ∧ o.cls = .ref C ∧ o.data = .fields #[t, .none, .none, .none, .bool false, .none] ∧ (b = true → o.dict = none)
  | .dict fs => ∃ m, h.Ns1 a m ∧ RepM h m fs ∧ (∀ x, fs.lookup x = none → m x = none)
  | .cell v => ∃ o v', h.get? a = some o ∧ o.data = .cell v' ∧ (match v with | some x => ∃ y, v' = some y ∧ RepV h x y | none => True)

/-- the object at a is no tuple -/
theorem RepO.shape {h : Heap} {a : Addr} : ∀ {o : O}, RepO h a o → ∃ ob, h.get? a = some ob ∧ (∀ vs n, ob ≠ tupO vs n)
  | .lst xs, ⟨vs, n, ho, r⟩ => ⟨_, ho, fun ws n q => by injection q with q1 q2; injection q1 with q1; simp at q1⟩
  | .inst C dx, ⟨o, ho, hc, hd, he, hne⟩ => ⟨o, ho, fun ws n q => by rw [q] at hc; cases hc⟩
  | .exc C t b, ⟨o, ho, hc, r⟩ => ⟨o, ho, fun ws n q => by rw [q] at hc; cases hc⟩
  | .dict fs, ⟨m, ⟨o, es, ep, ho, hd, _⟩, k, u⟩ => ⟨o, ho, fun ws n q => by rw [q] at hd; cases hd⟩
  | .cell v, ⟨o, v', ho, hd, hv⟩ => ⟨o, ho, fun ws n q => by rw [q] at hd; cases hd⟩
theorem RepF.shape {h : Heap} {L : Addr} {l : Loc} (r : RepF h L l) : ∃ ob, h.get? L = some ob ∧ (∀ vs n, ob ≠ tupO vs n) ∧ (∀ vs, ob.data ≠ .fields vs) := by
  obtain ⟨m, ⟨o, es, ep, ho, hd, _⟩, k⟩ := r
  exact ⟨o, ho, fun ws n q => by (rw [q] at hd; cases hd), fun ws q => by (rw [q] at hd; cases hd)⟩

/-- at another address than the changed one -/
theorem RepF.but {h h' : Heap} {b L : Addr} {l : Loc} (s : St h h') (k : ∀ c o, c ≠ b → h.get? c = some o → h'.get? c = some o) (hne : L ≠ b) (r : RepF h L l) : RepF h' L l :=
  let ⟨m, ⟨o, es, ep, ho, hr⟩, q⟩ := r; ⟨m, ⟨o, es, ep, k _ _ hne ho, hr⟩, q.st s⟩
theorem RepF.slots {h h' : Heap} {L : Addr} {l : Loc} (s : St h h') (k : ∀ o, h.get? L = some o → ∃ sl, h'.get? L = some { o with slots := sl }) (r : RepF h L l) : RepF h' L l :=
  let ⟨m, ⟨o, es, ep, ho, hd, hr⟩, q⟩ := r; let ⟨sl, e⟩ := k o ho; ⟨m, ⟨_, es, ep, e, hd, hr⟩, q.st s⟩
theorem RepO.but {h h' : Heap} {b a : Addr} (s : St h h') (k : ∀ c o, c ≠ b → h.get? c = some o → h'.get? c = some o) (hne : a ≠ b) : ∀ {o : O}, RepO h a o → RepO h' a o
  | .lst xs, ⟨vs, n, ho, r⟩ => ⟨vs, n, k _ _ hne ho, r.st s⟩
  | .inst C dx, ⟨o, ho, r⟩ => ⟨o, k _ _ hne ho, r⟩
  | .exc C t b, ⟨o, ho, r⟩ => ⟨o, k _ _ hne ho, r⟩
  | .dict fs, ⟨m, ⟨o, es, ep, ho, hr⟩, q, u⟩ => ⟨m, ⟨o, es, ep, k _ _ hne ho, hr⟩, q.st s, u⟩
  | .cell v, ⟨o, v', ho, hd, hv⟩ => ⟨o, v', k _ _ hne ho, hd, by
      cases v with
      | none => trivial
      | some y => exact let ⟨z, e, r⟩ := hv; ⟨z, e, r.st s⟩⟩

theorem RepO.at {h h' : Heap} {a : Addr} (s : St h h') (k : ∀ o, h.get? a = some o → h'.get? a = some o) : ∀ {o : O}, RepO h a o → RepO h' a o
  | .lst xs, ⟨vs, n, ho, r⟩ => ⟨vs, n, k _ ho, r.st s⟩
  | .inst C dx, ⟨o, ho, r⟩ => ⟨o, k _ ho, r⟩
  | .exc C t b, ⟨o, ho, r⟩ => ⟨o, k _ ho, r⟩
  | .dict fs, ⟨m, ⟨o, es, ep, ho, hr⟩, q, u⟩ => ⟨m, ⟨o, es, ep, k _ ho, hr⟩, q.st s, u⟩
  | .cell v, ⟨o, v', ho, hd, hv⟩ => ⟨o, v', k _ ho, hd, by
      cases v with
      | none => trivial
      | some y => exact let ⟨z, e, r⟩ := hv; ⟨z, e, r.st s⟩⟩
/-- what a step may do: tuples stay, and so does every untracked object that is no frame -/
abbrev fz (stk : List (Env × Loc)) : List Addr := stk.map (·.1.locals)
structure Wy (fs : List Addr) (σ : Sto) (h : Heap) (σ' : Sto) (h' : Heap) : Prop where
  st : St h h'
  tr : ∀ b o, h.get? b = some o → σ b = none → b ∉ fs → h'.get? b = some o ∧ σ' b = none
section
variable {stk : List Addr} {σ σ' σ'' : Sto} {h h' h'' : Heap}
theorem Wy.refl (h : Heap) : Wy stk σ h σ h := ⟨.refl h, fun _ _ e n _ => ⟨e, n⟩⟩
theorem Wy.trans (x : Wy stk σ h σ' h') (y : Wy stk σ' h' σ'' h'') : Wy stk σ h σ'' h'' :=
  ⟨x.st.trans y.st, fun b o e n f => let ⟨e1, n1⟩ := x.tr b o e n f; y.tr b o e1 n1 f⟩
theorem Wy.keeps (k : ∀ b o, h.get? b = some o → h'.get? b = some o) : Wy stk σ h σ h' := ⟨.keeps k, fun b o e n _ => ⟨k b o e, n⟩⟩
theorem Wy.less (x : Wy stk σ h σ' h') (k : ∀ b, σ' b = none → σ'' b = none) : Wy stk σ h σ'' h' := ⟨x.st, fun b o e n f => let ⟨a, c⟩ := x.tr b o e n f; ⟨a, k b c⟩⟩
/-- no untracked old object -/
def NN (fs : List Addr) (σ : Sto) (h : Heap) (a : Addr) : Prop := ∀ o, h.get? a = some o → σ a = none → a ∉ fs → False
theorem Wy.none_of_new {b : Addr} (x : Wy stk σ h σ' h') (n : h'.get? b = none) : NN stk σ h b := fun o e nn f => by
  have := (x.tr b o e nn f).1
  rw [n] at this; cases this
end

def upd (σ : Sto) (a : Addr) (o : O) : Sto := fun b => if b = a then some o else σ b
theorem upd_self (σ : Sto) (a : Addr) (o : O) : upd σ a o a = some o := by simp [upd]
theorem upd_ne (σ : Sto) {a b : Addr} (o : O) (h : b ≠ a) : upd σ a o b = σ b := by simp [upd, h]
theorem upd_upd (σ : Sto) (a : Addr) (o o' : O) : upd (upd σ a o) a o' = upd σ a o' := by funext b; simp only [upd]; split <;> rfl
theorem upd_same {σ : Sto} {a : Addr} {o : O} (h : σ a = some o) : upd σ a o = σ := by funext b; simp only [upd]; split <;> simp_all
theorem upd_comm (σ : Sto) {a b : Addr} (o o' : O) (h : a ≠ b) : upd (upd σ a o) b o' = upd (upd σ b o') a o := by
  funext c; simp only [upd]; split <;> split <;> simp_all

structure Wd where
  w : World
  B : Heap
  os : OsState

structure Gd (D : Wd) (stk : List (Env × Loc)) (σ : Sto) (s : Shared) : Prop where
  stays : D.B.StaysIn s.heap
  rel : ∀ a o, σ a = some o → RepO s.heap a o
  fresh : ∀ a o, σ a = some o → D.B.get? a = none
  frs : ∀ p ∈ stk, D.B.get? p.1.locals = none ∧ RepF s.heap p.1.locals p.2 ∧ σ p.1.locals = none
  nd : (stk.map (·.1.locals)).Nodup
  gens : s.gens = #[]
  os : s.os = D.os

section
variable {D : Wd} {stk : List (Env × Loc)} {σ : Sto} {s s' : Shared}
theorem Gd.keeps (G : Gd D stk σ s) (k : ∀ b o, s.heap.get? b = some o → s'.heap.get? b = some o) (hg : s'.gens = s.gens) (ho : s'.os = s.os) : Gd D stk σ s' :=
  ⟨fun b o e => k _ _ (G.stays b o e), fun a o e => (G.rel a o e).but (b := s.heap.objs.size) (.keeps k) (fun c o _ q => k c o q) (by
      obtain ⟨ob, h1, _⟩ := (G.rel a o e).shape; exact Nat.ne_of_lt (Heap.lt_size h1)), G.fresh,
    fun p hp => let ⟨a, b, c⟩ := G.frs p hp; ⟨a, b.but (b := s.heap.objs.size) (.keeps k) (fun c o _ q => k c o q) (by
      obtain ⟨ob, h1, _⟩ := b.shape; exact Nat.ne_of_lt (Heap.lt_size h1)), c⟩, G.nd, hg.trans G.gens, ho.trans G.os⟩
theorem Gd.size_none (G : Gd D stk σ s) : σ s.heap.objs.size = none := by
  cases q : σ s.heap.objs.size with
  | none => rfl
  | some o => obtain ⟨ob, e, _⟩ := (G.rel _ _ q).shape; exact absurd (Heap.lt_size e) (Nat.lt_irrefl _)
theorem Gd.none_of (G : Gd D stk σ s) {a : Addr} (h : s.heap.get? a = none) : σ a = none := by
  cases q : σ a with
  | none => rfl
  | some o => obtain ⟨ob, e, _⟩ := (G.rel _ _ q).shape; rw [h] at e; cases e
theorem Gd.base_none (G : Gd D stk σ s) {a : Addr} (h : s.heap.get? a = none) : D.B.get? a = none := by
  cases q : D.B.get? a with
  | none => rfl
  | some o => have := G.stays _ _ q; rw [h] at this; cases this
theorem Gd.frame_ne (G : Gd D stk σ s) {a : Addr} {o : O} (h : σ a = some o) {p : Env × Loc} (hp : p ∈ stk) : p.1.locals ≠ a := by
  intro e; have := (G.frs p hp).2.2; rw [e, h] at this; cases this
theorem Gd.frame_get (G : Gd D stk σ s) {a : Addr} (h : s.heap.get? a = none) {p : Env × Loc} (hp : p ∈ stk) : p.1.locals ≠ a := by
  intro e; obtain ⟨ob, e', _⟩ := (G.frs p hp).2.1.shape; rw [e, h] at e'; cases e'
/-- a tracked or a new object is changed -/
theorem Gd.set (G : Gd D stk σ s) {a : Addr} {o' : O} (hb : D.B.get? a = none) (hf : ∀ p ∈ stk, p.1.locals ≠ a) (S : St s.heap s'.heap)
    (k : ∀ b o, b ≠ a → s.heap.get? b = some o → s'.heap.get? b = some o) (r : RepO s'.heap a o') (hg : s'.gens = s.gens) (ho : s'.os = s.os) : Gd D stk (upd σ a o') s' := by
  refine ⟨fun b o e => k b o (fun q => by rw [q, hb] at e; cases e) (G.stays b o e), fun b o e => ?_, fun b o e => ?_, fun p hp => ?_, G.nd, hg.trans G.gens, ho.trans G.os⟩
  · by_cases q : b = a
    · subst q; rw [upd_self] at e; cases e; exact r
    · rw [upd_ne _ _ q] at e; exact (G.rel b o e).but S k q
  · by_cases q : b = a
    · subst q; exact hb
    · rw [upd_ne _ _ q] at e; exact G.fresh b o e
  · obtain ⟨x, y, z⟩ := G.frs p hp
    exact ⟨x, y.but S k (hf p hp), by rw [upd_ne _ _ (hf p hp)]; exact z⟩
theorem Gd.setAt (G : Gd D stk σ s) {a : Addr} {o o' : O} (ha : σ a = some o)
    (k : ∀ b o, b ≠ a → s.heap.get? b = some o → s'.heap.get? b = some o) (r : St s.heap s'.heap → RepO s'.heap a o') (hg : s'.gens = s.gens) (ho : s'.os = s.os) : Gd D stk (upd σ a o') s' ∧ Wy (fz stk) σ s.heap (upd σ a o') s'.heap := by
  obtain ⟨ob, h1, h3⟩ := (G.rel a o ha).shape
  have S : St s.heap s'.heap := .but h1 h3 k
  refine ⟨G.set (G.fresh a o ha) (fun p hp => G.frame_ne ha hp) S k (r S) hg ho, S, fun b ob e n _ => ?_⟩
  · have q : b ≠ a := fun q => by rw [q, ha] at n; cases n
    exact ⟨k b ob q e, by rw [upd_ne _ _ q]; exact n⟩
theorem Gd.new (G : Gd D stk σ s) {a : Addr} {o' : O} (ha : s.heap.get? a = none)
    (k : ∀ b o, s.heap.get? b = some o → s'.heap.get? b = some o) (r : RepO s'.heap a o') (hg : s'.gens = s.gens) (ho : s'.os = s.os) : Gd D stk (upd σ a o') s' ∧ Wy (fz stk) σ s.heap (upd σ a o') s'.heap ∧ σ a = none :=
  ⟨G.set (G.base_none ha) (fun p hp => G.frame_get ha hp) (.keeps k) (fun b o _ e => k b o e) r hg ho, ⟨.keeps k, fun b ob e n _ => ⟨k b ob e, by rw [upd_ne _ _ (fun q => by rw [q, ha] at e; cases e)]; exact n⟩⟩, G.none_of ha⟩
/-- forget tracked objects -/
theorem Gd.less (G : Gd D stk σ s) {σ' : Sto} (h : ∀ a o, σ' a = some o → σ a = some o) : Gd D stk σ' s :=
  ⟨G.stays, fun a o e => G.rel a o (h a o e), fun a o e => G.fresh a o (h a o e), fun p hp => let ⟨a, b, c⟩ := G.frs p hp; ⟨a, b, by
    cases q : σ' p.1.locals with
    | none => rfl
    | some o => rw [h _ _ q] at c; cases c⟩, G.nd, G.gens, G.os⟩
end

/-- what an expression hands on -/
def PV (D : Wd) (stk : List (Env × Loc)) (σ : Sto) (s : Shared) (Q : V → Sto → Prop) : Value → Shared → Prop :=
  fun v s' => ∃ x σ', Q x σ' ∧ RepV s'.heap x v ∧ Gd D stk σ' s' ∧ Wy (fz stk) σ s.heap σ' s'.heap
abbrev Mo (D : Wd) : Model := model P D.w

theorem pv_mono {D : Wd} {M : Model} {A : Around} {stk : List (Env × Loc)} {σ₀ σ₁ : Sto} {s₀ s₁ s : Shared} {Q : V → Sto → Prop} {t : Sem Value} {X : Value → Shared → Prop}
    (S : Wy (fz stk) σ₀ s₀.heap σ₁ s₁.heap) (h : wpAny M A t (PV D stk σ₁ s₁ Q) X s) : wpAny M A t (PV D stk σ₀ s₀ Q) X s :=
  wpAny_mono h (fun _ _ ⟨x, σ', q, r, g, t⟩ => ⟨x, σ', q, r, g, S.trans t⟩) fun _ _ e => e

def Ev (D : Wd) (A : Around) (stk : List (Env × Loc)) (env : Env) (e : Expr) (σ : Sto) (X : Value → Shared → Prop) (Q : V → Sto → Prop) : Prop :=
  ∀ s, Gd D stk σ s → wpAny (Mo D) A (eval e env) (PV D stk σ s Q) X s

/-- the world as the call finds it -/
structure Bs (D : Wd) : Prop where
  kin : (Kf D.w).In D.B
  top : ∃ p loose mg mb, TopRead p loose mg mb D.B

/-- room around a frame -/
structure Ao (A : Around) (stk : List (Env × Loc)) (n : Nat) : Prop where
  handled : A.handled = none
  frames : ∃ l, A.frames = some l ∧ ∀ env ∈ l, env ∈ stk.map (·.1) ∧ env.frame = some env.locals ∧ env.scope.kind ≠ .module
  depth : A.depth + 2 * n < recursionLimit
  units : A.units + 6 * n + 200 < cLine

section
variable {D : Wd} {A : Around} {stk : List (Env × Loc)} {env : Env} {l : Loc} {σ σ' : Sto} {s s' : Shared} {X : Value → Shared → Prop} {Q : V → Sto → Prop}

theorem pv {x : V} {v : Value} (q : Q x σ') (r : RepV s'.heap x v) (g : Gd D stk σ' s') (t : Wy (fz stk) σ s.heap σ' s'.heap) : PV D stk σ s Q v s' := ⟨x, σ', q, r, g, t⟩
theorem Gd.tk (G : Gd D stk σ s) (n : Tok) : Gd D stk σ { s with toks := n } := G.keeps (fun _ _ e => e) rfl rfl
theorem base_rep (G : Gd D stk σ s) {x : V} {v : Value} (r : RepV D.B x v) : RepV s.heap x v := r.st (.keeps G.stays)

theorem ev_local {x : Str} {p : Pos} {v : V} (hv : l.lookup x = some v) (h : Q v σ) (hk : env.scope.kind = .function := by rfl) (hl : env.kindOf x = some .local := by rfl)
    (hd : (x == ("__debug__" : Str)) = false := by decide) : Ev D A ((env, l) :: stk) env (.Name x p) σ X Q := fun s G => by
  obtain ⟨_, ⟨m, hn, hm⟩, _⟩ := G.frs _ (.head _)
  obtain ⟨v', h1, h2⟩ := hm x v hv
  exact wpAny_Name (wpAny_loadName_local hk hl hn h1 (pv h h2 G (.refl _))) hd
theorem ev_free {x : Str} {p : Pos} {v : V} {c : Addr} (hc : env.cells.lookup x = some c) (hv : σ c = some (.cell (some v))) (h : Q v σ) (hk : env.scope.kind = .function := by rfl) (hl : env.kindOf x = some .free := by rfl)
    (hd : (x == ("__debug__" : Str)) = false := by decide) (hd' : (x == ("__classdict__" : Str)) = false := by decide) : Ev D A stk env (.Name x p) σ X Q := fun s G => by
  obtain ⟨o, v', ho, hod, v'', rfl, hr⟩ := G.rel _ _ hv
  exact wpAny_Name (wpAny_loadName_free hk hl hc ⟨o, ho, hod⟩ (pv h hr G (.refl _)) hd') hd
theorem ev_cell {x : Str} {p : Pos} {v : V} {c : Addr} (hc : env.cells.lookup x = some c) (hv : σ c = some (.cell (some v))) (h : Q v σ) (hk : env.scope.kind = .function := by rfl) (hl : env.kindOf x = some .cell := by rfl)
    (hd : (x == ("__debug__" : Str)) = false := by decide) : Ev D A stk env (.Name x p) σ X Q := fun s G => by
  obtain ⟨o, v', ho, hod, v'', rfl, hr⟩ := G.rel _ _ hv
  exact wpAny_Name (wpAny_loadName_cell hk hl hc ⟨o, ho, hod⟩ (pv h hr G (.refl _))) hd
theorem ev_glob {x : Str} {p : Pos} {v : Value} {y : V} (b : Bs D) (e : nsIn (Kf D.w) mainGlobals x = some (some v)) (r : RepV D.B y v) (h : Q y σ)
    (hk : env.scope.kind = .function := by rfl) (hl : env.kindOf x = some .globalImplicit := by rfl) (hg : env.globals = mainGlobals := by rfl)
    (hd : (x == ("__debug__" : Str)) = false := by decide) : Ev D A stk env (.Name x p) σ X Q := fun s G => by
  obtain ⟨pr, lo, mg, mb, T⟩ := b.top
  exact Calls.Name_function_global hk hl (Calls.loadGlobal_global (hg ▸ T.g.keeps G.stays) (mg_of b.kin T.g e) (pv h (base_rep G r) G (.refl _))) hd
theorem ev_built {x : Str} {p : Pos} {v : Value} (b : Bs D) (e : nsIn (Kf D.w) mainGlobals x = some none) (hv : bootBuiltins x = some v) (h : Q (.con v) σ)
    (hn : x ≠ "__name__" := by decide) (hk : env.scope.kind = .function := by rfl) (hl : env.kindOf x = some .globalImplicit := by rfl) (hg : env.globals = mainGlobals := by rfl) (hb : env.builtins = builtinsNs := by rfl)
    (hd : (x == ("__debug__" : Str)) = false := by decide) : Ev D A stk env (.Name x p) σ X Q := fun s G => by
  obtain ⟨pr, lo, mg, mb, T⟩ := b.top
  exact Calls.Name_function_global hk hl (Calls.loadGlobal_builtin (hg ▸ T.g.keeps G.stays) (mg_none_of b.kin T.g e) (hb ▸ T.b.keeps G.stays) ((T.builtins x hn).trans hv) (pv h (.con _) G (.refl _))) hd

theorem ev_int {i : Int} {k : Nat} {p : Pos} (h : Q (.int i) σ) : Ev D A stk env (.Constant (.int i) k p) σ X Q := fun s G => wpAny_Constant_int (pv h (.int _ _) (G.tk _) (.refl _))
theorem ev_str {x : Str} {k : Nat} {p : Pos} (h : Q (.str x) σ) : Ev D A stk env (.Constant (.str x) k p) σ X Q := fun s G => wpAny_Constant_str (pv h (.str _ _) (G.tk _) (.refl _))
theorem ev_bool {b : Bool} {k : Nat} {p : Pos} (h : Q (.bool b) σ) : Ev D A stk env (.Constant (.bool b) k p) σ X Q := fun s G => wpAny_Constant_bool (pv h (.bool _) G (.refl _))
theorem ev_none {k : Nat} {p : Pos} (h : Q .none σ) : Ev D A stk env (.Constant .none k p) σ X Q := fun s G => wpAny_Constant_none (pv h .none G (.refl _))

/-- a step on one, two values -/
def Op1 (D : Wd) (stk : List (Env × Loc)) (t : Value → Sem Value) (A : Around) (a : V) (σ : Sto) (X : Value → Shared → Prop) (Q : V → Sto → Prop) : Prop :=
  ∀ s v, Gd D stk σ s → RepV s.heap a v → wpAny (Mo D) A (t v) (PV D stk σ s Q) X s
def Op2 (D : Wd) (stk : List (Env × Loc)) (t : Value → Value → Sem Value) (A : Around) (a b : V) (σ : Sto) (X : Value → Shared → Prop) (Q : V → Sto → Prop) : Prop :=
  ∀ s v u, Gd D stk σ s → RepV s.heap a v → RepV s.heap b u → wpAny (Mo D) A (t v u) (PV D stk σ s Q) X s
theorem ev_bin {le re : Expr} {op : Operator} {p : Pos} (h : Ev D A stk env le σ X (fun a σ₁ => Ev D A stk env re σ₁ X fun b σ₂ => Op2 D stk (binaryOp op) A a b σ₂ X Q)) :
    Ev D A stk env (.BinOp le op re p) σ X Q := fun s G => by
  refine wpAny_BinOp (wpAny_mono (h s G) (fun v s₁ h₁ => ?_) fun _ _ e => e)
  obtain ⟨a, σ₁, h1, r1, g1, t1⟩ := h₁
  refine wpAny_mono (h1 s₁ g1) (fun u s₂ h₂ => ?_) fun _ _ e => e
  obtain ⟨b, σ₂, h2, r2, g2, t2⟩ := h₂
  exact pv_mono (t1.trans t2) (h2 s₂ v u g2 (r1.st t2.st) r2)
theorem ev_un {e : Expr} {op : UnaryOp} {p : Pos} (h : Ev D A stk env e σ X (fun a σ₁ => Op1 D stk (unaryOp op) A a σ₁ X Q)) : Ev D A stk env (.UnaryOp op e p) σ X Q := fun s G => by
  refine wpAny_UnaryOp (wpAny_mono (h s G) (fun v s₁ h₁ => ?_) fun _ _ e => e)
  obtain ⟨a, σ₁, h1, r1, g1, t1⟩ := h₁
  exact pv_mono t1 (h1 s₁ v g1 r1)

theorem op_add {a b : Int} (h : Q (.int (a + b)) σ) : Op2 D stk (binaryOp .Add) A (.int a) (.int b) σ X Q := fun s v u G r1 r2 => by
  cases r1; cases r2; exact wpAny_add_int (pv h (.int _ _) (G.tk _) (.refl _))
theorem op_sub {a b : Int} (h : Q (.int (a - b)) σ) : Op2 D stk (binaryOp .Sub) A (.int a) (.int b) σ X Q := fun s v u G r1 r2 => by
  cases r1; cases r2; exact sub_int (pv h (.int _ _) (G.tk _) (.refl _))
theorem op_mul {a b : Int} (hm : IntMulOk a b) (h : Q (.int (a * b)) σ) : Op2 D stk (binaryOp .Mult) A (.int a) (.int b) σ X Q := fun s v u G r1 r2 => by
  cases r1; cases r2; exact mul_int (pv h (.int _ _) (G.tk _) (.refl _)) hm
theorem op_mod {a b : Int} (hb : b ≠ 0) (h : Q (.int (a.fmod b)) σ) : Op2 D stk (binaryOp .Mod) A (.int a) (.int b) σ X Q := fun s v u G r1 r2 => by
  cases r1; cases r2; exact mod_int' hb (pv h (.int _ _) (G.tk _) (.refl _))
theorem op_div {a b : Int} (hb : b ≠ 0) (hs : b.natAbs < 2 ^ 64) (h : Q (.int (a.fdiv b)) σ) : Op2 D stk (binaryOp .FloorDiv) A (.int a) (.int b) σ X Q := fun s v u G r1 r2 => by
  cases r1; cases r2
  refine floordiv_int hb (pv h (.int _ _) (G.tk _) (.refl _)) (.inl ?_)
  unfold Builtin.divisionGoesByPylong
  have : b.natAbs.log2 < 64 := (Nat.log2_lt (by omega)).mpr hs
  simp only [Bool.and_eq_false_iff]
  left
  split <;> simp <;> omega
theorem op_pow {a n : Int} (hn : 0 ≤ n) (hb : (Builtin.Int.intBits a : Int) * n ≤ 2 ^ 27) (h : Q (.int (a ^ n.toNat)) σ) : Op2 D stk (binaryOp .Pow) A (.int a) (.int n) σ X Q := fun s v u G r1 r2 => by
  cases r1; cases r2; exact pow_int hn hb (pv h (.int _ _) (G.tk _) (.refl _))
theorem op_neg {a : Int} (h : Q (.int (-a)) σ) : Op1 D stk (unaryOp .USub) A (.int a) σ X Q := fun s v G r1 => by
  cases r1; exact neg_int (pv h (.int _ _) (G.tk _) (.refl _))
theorem op_iadd {a b : Int} (h : Q (.int (a + b)) σ) : Op2 D stk (inplaceOp .Add) A (.int a) (.int b) σ X Q := fun s v u G r1 r2 => by
  cases r1; cases r2; exact wpAny_iadd_int (pv h (.int _ _) (G.tk _) (.refl _))
theorem inplace_sub (a b : Int) (t u : Tok) : True := trivial

/-- a test -/
def PB (D : Wd) (stk : List (Env × Loc)) (σ : Sto) (s : Shared) (Q : Bool → Sto → Prop) : Bool → Shared → Prop :=
  fun b s' => ∃ σ', Q b σ' ∧ Gd D stk σ' s' ∧ Wy (fz stk) σ s.heap σ' s'.heap
def Tv (D : Wd) (A : Around) (stk : List (Env × Loc)) (env : Env) (e : Expr) (σ : Sto) (X : Value → Shared → Prop) (Q : Bool → Sto → Prop) : Prop :=
  ∀ s, Gd D stk σ s → wpAny (Mo D) A (isTrue e env (eval e env)) (PB D stk σ s Q) X s
/-- a comparison -/
def Cm (D : Wd) (A : Around) (stk : List (Env × Loc)) (op : CmpOp) (a b : V) (σ : Sto) (X : Value → Shared → Prop) (Q : Bool → Sto → Prop) : Prop :=
  ∀ s v u, Gd D stk σ s → RepV s.heap a v → RepV s.heap b u → wpAny (Mo D) A (compareOp op v u) (fun c s' => ∃ b, c = .bool b ∧ PB D stk σ s Q b s') X s

variable {T : Bool → Sto → Prop}
theorem pb_mono {M : Model} {σ₀ σ₁ : Sto} {s₀ s₁ : Shared} {t : Sem Bool} (S : Wy (fz stk) σ₀ s₀.heap σ₁ s₁.heap) (h : wpAny M A t (PB D stk σ₁ s₁ T) X s) : wpAny M A t (PB D stk σ₀ s₀ T) X s :=
  wpAny_mono h (fun _ _ ⟨σ', q, g, t⟩ => ⟨σ', q, g, S.trans t⟩) fun _ _ e => e
theorem tv_cmp {le re : Expr} {op : CmpOp} {p : Pos} (h : Ev D A stk env le σ X (fun a σ₁ => Ev D A stk env re σ₁ X fun b σ₂ => Cm D A stk op a b σ₂ X T))
    (hm : behindInMarks op re = false := by with_unfolding_all rfl) : Tv D A stk env (.Compare le [op] [re] p) σ X T := fun s G => by
  refine wpAny_isTrue_Compare1 (wpAny_mono (h s G) (fun v s₁ h₁ => ?_) fun _ _ e => e) hm
  obtain ⟨a, σ₁, h1, r1, g1, t1⟩ := h₁
  refine wpAny_mono (h1 s₁ g1) (fun u s₂ h₂ => ?_) fun _ _ e => e
  obtain ⟨b, σ₂, h2, r2, g2, t2⟩ := h₂
  refine wpAny_mono (h2 s₂ v u g2 (r1.st t2.st) r2) (fun c s₃ h₃ => ?_) fun _ _ e => e
  obtain ⟨c, rfl, σ₃, h3, g3, t3⟩ := h₃
  exact wpAny_truthy_bool ⟨σ₃, h3, g3, (t1.trans t2).trans t3⟩
theorem ev_cmp {le re : Expr} {op : CmpOp} {p : Pos} (h : Ev D A stk env le σ X (fun a σ₁ => Ev D A stk env re σ₁ X fun b σ₂ => Cm D A stk op a b σ₂ X fun c => Q (.bool c)))
    (hm : behindInMarks op re = false := by with_unfolding_all rfl) : Ev D A stk env (.Compare le [op] [re] p) σ X Q := fun s G => by
  refine wpAny_Compare1 (wpAny_mono (h s G) (fun v s₁ h₁ => ?_) fun _ _ e => e) hm
  obtain ⟨a, σ₁, h1, r1, g1, t1⟩ := h₁
  refine wpAny_mono (h1 s₁ g1) (fun u s₂ h₂ => ?_) fun _ _ e => e
  obtain ⟨b, σ₂, h2, r2, g2, t2⟩ := h₂
  refine wpAny_mono (h2 s₂ v u g2 (r1.st t2.st) r2) (fun c s₃ h₃ => ?_) fun _ _ e => e
  obtain ⟨c, rfl, σ₃, h3, g3, t3⟩ := h₃
  exact ⟨_, σ₃, h3, .bool _, g3, (t1.trans t2).trans t3⟩
/-- a <op> b <op'> c -/
theorem ev_chain {le re re' : Expr} {op op' : CmpOp} {p : Pos} (h : Ev D A stk env le σ X (fun a σ₁ => Ev D A stk env re σ₁ X fun b σ₂ => Cm D A stk op a b σ₂ X fun c σ₃ =>
      if c then Ev D A stk env re' σ₃ X (fun d σ₄ => Cm D A stk op' b d σ₄ X fun c => Q (.bool c)) else Q (.bool false) σ₃))
    (hm : lastMarks [op, op'] [re, re'] = false := by with_unfolding_all rfl) : Ev D A stk env (.Compare le [op, op'] [re, re'] p) σ X Q := fun s G => by
  refine Compare_chain (wpAny_mono (h s G) (fun v s₁ h₁ => ?_) fun _ _ e => e) hm
  obtain ⟨a, σ₁, h1, r1, g1, t1⟩ := h₁
  refine chain_link (wpAny_mono (h1 s₁ g1) (fun u s₂ h₂ => ?_) fun _ _ e => e)
  obtain ⟨b, σ₂, h2, r2, g2, t2⟩ := h₂
  refine wpAny_mono (h2 s₂ v u g2 (r1.st t2.st) r2) (fun c s₃ h₃ => ?_) fun _ _ e => e
  obtain ⟨c, rfl, σ₃, h3, g3, t3⟩ := h₃
  refine wpAny_truthy_bool ?_
  cases c with
  | false => exact ⟨_, σ₃, h3, .bool _, g3, (t1.trans t2).trans t3⟩
  | true =>
    refine chain_last (wpAny_mono (h3 s₃ g3) (fun w s₄ h₄ => ?_) fun _ _ e => e)
    obtain ⟨d, σ₄, h4, r4, g4, t4⟩ := h₄
    refine wpAny_mono (h4 s₄ u w g4 ((r2.st t3.st).st t4.st) r4) (fun c s₅ h₅ => ?_) fun _ _ e => e
    obtain ⟨c, rfl, σ₅, h5, g5, t5⟩ := h₅
    exact ⟨_, σ₅, h5, .bool _, g5, (((t1.trans t2).trans t3).trans t4).trans t5⟩

theorem tv_not {e : Expr} {p : Pos} (h : Tv D A stk env e σ X fun b => T (!b)) : Tv D A stk env (.UnaryOp .Not e p) σ X T := fun s G =>
  isTrue_not (wpAny_mono (h s G) (fun _ _ ⟨σ', q, g, t⟩ => ⟨σ', q, g, t⟩) fun _ _ e => e)
theorem tv_and_nil {p : Pos} (h : T true σ) : Tv D A stk env (.BoolOp .And [] p) σ X T := fun s G => isTrue_and_nil ⟨σ, h, G, .refl _⟩
theorem tv_or_nil {p : Pos} (h : T false σ) : Tv D A stk env (.BoolOp .Or [] p) σ X T := fun s G => isTrue_or_nil ⟨σ, h, G, .refl _⟩
def isTrueAnd (e : Expr) : Prop := True
theorem tv_and {e : Expr} {rest : List Expr} {p : Pos} (h : Tv D A stk env e σ X fun b σ₁ => if b then Tv D A stk env (.BoolOp .And rest p) σ₁ X T else T false σ₁) :
    Tv D A stk env (.BoolOp .And (e :: rest) p) σ X T := fun s G => by
  refine isTrue_and (wpAny_mono (h s G) (fun b s₁ h₁ => ?_) fun _ _ e => e)
  obtain ⟨σ₁, h1, g1, t1⟩ := h₁
  cases b with
  | false => exact ⟨σ₁, h1, g1, t1⟩
  | true => exact pb_mono t1 (h1 s₁ g1)
theorem tv_or {e : Expr} {rest : List Expr} {p : Pos} (h : Tv D A stk env e σ X fun b σ₁ => if b then T true σ₁ else Tv D A stk env (.BoolOp .Or rest p) σ₁ X T) :
    Tv D A stk env (.BoolOp .Or (e :: rest) p) σ X T := fun s G => by
  refine isTrue_or (wpAny_mono (h s G) (fun b s₁ h₁ => ?_) fun _ _ e => e)
  obtain ⟨σ₁, h1, g1, t1⟩ := h₁
  cases b with
  | true => exact ⟨σ₁, h1, g1, t1⟩
  | false => exact pb_mono t1 (h1 s₁ g1)
/-- a value that is a bool -/
theorem tv_bool {e : Expr} (h : Ev D A stk env e σ X fun v σ₁ => ∃ b, v = .bool b ∧ T b σ₁)
    (he : isTrue e env (eval e env) = (do let v ← eval e env; standAt e.pos; holding [v] (truthy v)) := by rfl) : Tv D A stk env e σ X T := fun s G => by
  refine isTrue_plain (wpAny_mono (h s G) (fun v s₁ h₁ => ?_) fun _ _ e => e) he
  obtain ⟨x, σ₁, ⟨b, rfl, h1⟩, r1, g1, t1⟩ := h₁
  cases r1
  exact wpAny_truthy_bool ⟨σ₁, h1, g1, t1⟩
theorem ev_ite {t b o : Expr} {p : Pos} (h : Tv D A stk env t σ X fun c σ₁ => if c then Ev D A stk env b σ₁ X Q else Ev D A stk env o σ₁ X Q) : Ev D A stk env (.IfExp t b o p) σ X Q := fun s G => by
  refine wpAny_IfExp (wpAny_mono (h s G) (fun c s₁ h₁ => ?_) fun _ _ e => e)
  obtain ⟨σ₁, h1, g1, t1⟩ := h₁
  cases c with
  | false => exact pv_mono t1 (h1 s₁ g1)
  | true => exact pv_mono t1 (h1 s₁ g1)

theorem cm_eq_int {a b : Int} (h : T (a == b) σ) : Cm D A stk .Eq (.int a) (.int b) σ X T := fun s v u G r1 r2 => by
  cases r1; cases r2; exact eq_int ⟨_, rfl, σ, h, G, .refl _⟩
theorem cm_ne_int {a b : Int} (h : T (!(a == b)) σ) : Cm D A stk .NotEq (.int a) (.int b) σ X T := fun s v u G r1 r2 => by
  cases r1; cases r2; exact ne_int ⟨_, rfl, σ, h, G, .refl _⟩
theorem cm_lt_int {a b : Int} (h : T (decide (a < b)) σ) : Cm D A stk .Lt (.int a) (.int b) σ X T := fun s v u G r1 r2 => by
  cases r1; cases r2; exact lt_int ⟨_, rfl, σ, h, G, .refl _⟩
theorem cm_le_int {a b : Int} (h : T (decide (a ≤ b)) σ) : Cm D A stk .LtE (.int a) (.int b) σ X T := fun s v u G r1 r2 => by
  cases r1; cases r2; exact le_int ⟨_, rfl, σ, h, G, .refl _⟩
theorem cm_gt_int {a b : Int} (h : T (decide (b < a)) σ) : Cm D A stk .Gt (.int a) (.int b) σ X T := fun s v u G r1 r2 => by
  cases r1; cases r2; exact gt_int ⟨_, rfl, σ, h, G, .refl _⟩
theorem cm_ge_int {a b : Int} (h : T (decide (b ≤ a)) σ) : Cm D A stk .GtE (.int a) (.int b) σ X T := fun s v u G r1 r2 => by
  cases r1; cases r2; exact ge_int ⟨_, rfl, σ, h, G, .refl _⟩
end
section
variable {D : Wd} {A : Around} {stk : List (Env × Loc)} {env : Env} {l : Loc} {σ σ' : Sto} {s s' : Shared} {X : Value → Shared → Prop} {Q : V → Sto → Prop}

theorem RepO.isList {h : Heap} {a : Addr} {xs : List V} (r : RepO h a (.lst xs)) : ∃ vs : Array Value, h.IsList a vs ∧ RepVs h xs vs.toList ∧ vs.size = xs.length := by
  obtain ⟨vs, n, ho, hr⟩ := r
  exact ⟨vs, ⟨_, ho, rfl, n, rfl⟩, hr, by simpa using hr.length⟩
theorem RepV.isTup {h : Heap} {xs : List V} {v : Value} (r : RepV h (.tup xs) v) : ∃ a vs, v = .ref a ∧ IsTup h a vs ∧ RepVs h xs vs.toList ∧ vs.size = xs.length := by
  cases r with
  | tup ho hr => exact ⟨_, _, rfl, ⟨_, ho, rfl, _, rfl⟩, hr, by simpa using hr.length⟩
theorem RepV.isTupO {h : Heap} {xs : List V} {v : Value} (r : RepV h (.tup xs) v) : ∃ a vs n, v = .ref a ∧ h.get? a = some (tupO vs n) ∧ RepVs h xs vs.toList ∧ vs.size = xs.length := by
  cases r with
  | tup ho hr => exact ⟨_, _, _, rfl, ho, hr, by simpa using hr.length⟩
theorem repO_new {h' : Heap} {a : Addr} {xs : List V} {vs : Array Value} {n : Nat} (e : h'.get? a = some { cls := .type "list", data := .seq vs n }) (r : RepVs h' xs vs.toList) : RepO h' a (.lst xs) :=
  ⟨vs, n, e, r⟩
theorem keeps_push (h : Heap) (o : Obj) : ∀ b ob, h.get? b = some ob → (h.push o).get? b = some ob := fun _ _ e => Heap.get?_push_of_some o e

/-- a new list -/
theorem Gd.newList (G : Gd D stk σ s) {xs : List V} {vs : List Value} (r : RepVs s.heap xs vs) :
    Gd D stk (upd σ s.heap.objs.size (.lst xs)) { s with heap := s.heap.push { cls := .type "list", data := .seq vs.toArray } } ∧ Wy (fz stk) σ s.heap (upd σ s.heap.objs.size (.lst xs)) (s.heap.push { cls := .type "list", data := .seq vs.toArray }) ∧ σ s.heap.objs.size = none := by
  have k := keeps_push s.heap { cls := .type "list", data := .seq vs.toArray }
  exact G.new (s' := { s with heap := s.heap.push { cls := .type "list", data := .seq vs.toArray } }) (Heap.get?_none_of_le (Nat.le_refl _)) k (repO_new (Heap.get?_push_size _ rfl) (by simpa using r.st (.keeps k))) rfl rfl
theorem Gd.newTup (G : Gd D stk σ s) {xs : List V} {vs : List Value} (r : RepVs s.heap xs vs) :
    Gd D stk σ { s with heap := s.heap.push { cls := .type "tuple", data := .seq vs.toArray } } ∧ Wy (fz stk) σ s.heap σ (s.heap.push { cls := .type "tuple", data := .seq vs.toArray }) ∧ RepV (s.heap.push { cls := .type "tuple", data := .seq vs.toArray }) (.tup xs) (.ref s.heap.objs.size) := by
  have k := keeps_push s.heap { cls := .type "tuple", data := .seq vs.toArray }
  exact ⟨G.keeps k rfl rfl, .keeps k, .tup (Heap.get?_push_size _ rfl) (by simpa using r.st (.keeps k))⟩

/-- a row of expressions -/
def PVs (D : Wd) (stk : List (Env × Loc)) (σ : Sto) (s : Shared) (R : List V → Sto → Prop) : List Value → Shared → Prop :=
  fun vs s' => ∃ xs σ', R xs σ' ∧ RepVs s'.heap xs vs ∧ Gd D stk σ' s' ∧ Wy (fz stk) σ s.heap σ' s'.heap
def Sp (D : Wd) (A : Around) (stk : List (Env × Loc)) (env : Env) (pos : Pos) (es : List Expr) (σ : Sto) (X : Value → Shared → Prop) (R : List V → Sto → Prop) : Prop :=
  ∀ s, Gd D stk σ s → wpAny (Mo D) A (spliced (backTo pos (starEach es env))) (PVs D stk σ s R) X s
variable {R : List V → Sto → Prop}
theorem sp_nil {pos : Pos} (h : R [] σ) : Sp D A stk env pos [] σ X R := fun s G => spliced_nil ⟨[], σ, h, .nil, G, .refl _⟩
theorem sp_cons {pos : Pos} {e : Expr} {es : List Expr} (h : Ev D A stk env e σ X fun x σ₁ => Sp D A stk env pos es σ₁ X fun xs => R (x :: xs))
    (he : starEach (e :: es) env = (false, eval e env) :: starEach es env := by rfl) : Sp D A stk env pos (e :: es) σ X R := fun s G => by
  rw [he]
  refine spliced_cons (wpAny_mono (h s G) (fun v s₁ h₁ => ?_) fun _ _ e => e)
  obtain ⟨x, σ₁, h1, r1, g1, t1⟩ := h₁
  refine wpAny_mono (h1 s₁ g1) (fun vs s₂ h₂ => ?_) fun _ _ e => e
  obtain ⟨xs, σ₂, h2, r2, g2, t2⟩ := h₂
  exact ⟨_, σ₂, h2, .cons (r1.st t2.st) r2, g2, t1.trans t2⟩
theorem ev_tuple {es : List Expr} {k : Nat} {p : Pos} (h : Sp D A stk env p es σ X fun xs σ₁ => xs.length ≤ sizeLine ∧ Q (.tup xs) σ₁) : Ev D A stk env (.Tuple es k p) σ X Q := fun s G => by
  refine wpAny_Tuple_spliced (wpAny_mono (h s G) (fun vs s₁ h₁ => ?_) fun _ _ e => e)
  obtain ⟨xs, σ₁, ⟨hz, h1⟩, r1, g1, t1⟩ := h₁
  obtain ⟨g, t, r⟩ := g1.newTup r1
  exact ⟨r1.length ▸ hz, pv h1 r g (t1.trans t)⟩
theorem ev_list {es : List Expr} {p : Pos} (h : Sp D A stk env p es σ X fun xs σ₁ => xs.length ≤ sizeLine ∧ ∀ a, σ₁ a = none → Q (.ref a) (upd σ₁ a (.lst xs))) : Ev D A stk env (.List es p) σ X Q := fun s G => by
  refine wpAny_List_spliced (wpAny_mono (h s G) (fun vs s₁ h₁ => ?_) fun _ _ e => e)
  obtain ⟨xs, σ₁, ⟨hz, h1⟩, r1, g1, t1⟩ := h₁
  obtain ⟨g, t, n⟩ := g1.newList r1
  exact ⟨r1.length ▸ hz, pv (h1 _ n) (.ref _) g (t1.trans t)⟩

/-- subscripts -/
theorem ev_sub {ve ie : Expr} {p : Pos} (h : Ev D A stk env ve σ X fun a σ₁ => Ev D A stk env ie σ₁ X fun b σ₂ => Op2 D stk (subscriptTail ve ie) A a b σ₂ X Q) :
    Ev D A stk env (.Subscript ve ie p) σ X Q := fun s G => by
  refine Subscript_ (wpAny_mono (h s G) (fun v s₁ h₁ => ?_) fun _ _ e => e)
  obtain ⟨a, σ₁, h1, r1, g1, t1⟩ := h₁
  refine wpAny_mono (h1 s₁ g1) (fun u s₂ h₂ => ?_) fun _ _ e => e
  obtain ⟨b, σ₂, h2, r2, g2, t2⟩ := h₂
  exact pv_mono (t1.trans t2) (h2 s₂ v u g2 (r1.st t2.st) r2)
theorem sb_list {ve ie : Expr} {a : Addr} {xs : List V} {k : Int} {x : V} (ha : σ a = some (.lst xs)) (h0 : 0 ≤ k) (hk : k < 2 ^ 63) (hx : xs[k.toNat]? = some x) (h : Q x σ)
    (hs : ∀ u, subscripted ie false (.ref a) (.int k u) = operate [.ref a, .int k u] (getItem (.ref a) (.int k u)) := by intro u; with_unfolding_all rfl) :
    Op2 D stk (subscriptTail ve ie) A (.ref a) (.int k) σ X Q := fun s v u G r1 r2 => by
  cases r1; cases r2
  obtain ⟨vs, hl, hr, hz⟩ := (G.rel _ _ ha).isList
  obtain ⟨v, hv, r⟩ := hr.get hx
  exact tail_any hl.typeIs slot_list_getitem.lookup (wpAny_getItem_list hl h0 hk (by simpa using hv) (pv h r G (.refl _))) (hs _)
theorem sb_list_neg {ve ie : Expr} {a : Addr} {xs : List V} {k : Int} {x : V} (ha : σ a = some (.lst xs)) (h0 : k < 0) (hk : -(2 ^ 63) ≤ k) (hle : -(xs.length : Int) ≤ k) (hx : xs[(k + xs.length).toNat]? = some x) (h : Q x σ)
    (hs : ∀ u, subscripted ie false (.ref a) (.int k u) = operate [.ref a, .int k u] (getItem (.ref a) (.int k u)) := by intro u; with_unfolding_all rfl) :
    Op2 D stk (subscriptTail ve ie) A (.ref a) (.int k) σ X Q := fun s v u G r1 r2 => by
  cases r1; cases r2
  obtain ⟨vs, hl, hr, hz⟩ := (G.rel _ _ ha).isList
  obtain ⟨v, hv, r⟩ := hr.get hx
  exact tail_any hl.typeIs slot_list_getitem.lookup (wpAny_getItem_list_neg hl h0 (by omega) hk (by rw [hz]; simpa using hv) (pv h r G (.refl _))) (hs _)
theorem sb_tup {ve ie : Expr} {xs : List V} {k : Int} {j : Nat} {x : V} (h0 : -(2 ^ 63) ≤ k) (hk : k < 2 ^ 63) (hj : seqIndex? k xs.length = some j) (hx : xs[j]? = some x) (h : Q x σ)
    (hs : ∀ a u, subscripted ie false (.ref a) (.int k u) = operate [.ref a, .int k u] (getItem (.ref a) (.int k u)) := by intro a u; with_unfolding_all rfl) :
    Op2 D stk (subscriptTail ve ie) A (.tup xs) (.int k) σ X Q := fun s v u G r1 r2 => by
  obtain ⟨a, vs, rfl, ht, hr, hz⟩ := r1.isTup
  cases r2
  obtain ⟨v, hv, r⟩ := hr.get hx
  exact tail_any (T := "tuple") ht.typeIs slot_tuple_getitem.lookup (getItem_tuple ht h0 hk (by rw [hz]; exact hj) (by simpa using hv) (pv h r G (.refl _))) (hs _ _)

/-- parts of a slice -/
inductive PartV : V → Option Int → Prop
  | none : PartV .none none
  | int (i : Int) : PartV (.int i) (some i)
theorem PartV.is {x : V} {k : Option Int} {h : Heap} {v : Value} (p : PartV x k) (r : RepV h x v) : IsPart v k := by
  cases p with
  | none => cases r; exact .none
  | int i => cases r; exact .int _ _
def EvO (D : Wd) (A : Around) (stk : List (Env × Loc)) (env : Env) (e : Option Expr) (σ : Sto) (X : Value → Shared → Prop) (Q : V → Sto → Prop) : Prop :=
  ∀ s, Gd D stk σ s → wpAny (Mo D) A (evalPart e env) (PV D stk σ s Q) X s
theorem evo_none (h : Q .none σ) : EvO D A stk env none σ X Q := fun s G => wpAny_pure (pv h .none G (.refl _))
theorem evo_some {e : Expr} (h : Ev D A stk env e σ X Q) : EvO D A stk env (some e) σ X Q := fun s G => h s G
/-- a value at a new slice object -/
def Sl (D : Wd) (A : Around) (stk : List (Env × Loc)) (ve ie : Expr) (a x y z : V) (σ : Sto) (X : Value → Shared → Prop) (Q : V → Sto → Prop) : Prop :=
  ∀ s v sl vx vy vz, Gd D stk σ s → RepV s.heap a v → RepV s.heap x vx → RepV s.heap y vy → RepV s.heap z vz → s.heap.IsSliceOf sl vx vy vz → wpAny (Mo D) A (subscriptTail ve ie v (.ref sl)) (PV D stk σ s Q) X s
theorem ev_slice {ve : Expr} {lo hi st : Option Expr} {p p' : Pos}
    (h : Ev D A stk env ve σ X fun a σ₁ => EvO D A stk env lo σ₁ X fun x σ₂ => EvO D A stk env hi σ₂ X fun y σ₃ => EvO D A stk env st σ₃ X fun z σ₄ => Sl D A stk ve (.Slice lo hi st p') a x y z σ₄ X Q) :
    Ev D A stk env (.Subscript ve (.Slice lo hi st p') p) σ X Q := fun s G => by
  refine Subscript_ (wpAny_mono (h s G) (fun v s₁ h₁ => ?_) fun _ _ e => e)
  obtain ⟨a, σ₁, h1, r1, g1, t1⟩ := h₁
  refine wpAny_Slice (wpAny_mono (h1 s₁ g1) (fun vx s₂ h₂ => ?_) fun _ _ e => e)
  obtain ⟨x, σ₂, h2, r2, g2, t2⟩ := h₂
  refine wpAny_mono (h2 s₂ g2) (fun vy s₃ h₃ => ?_) fun _ _ e => e
  obtain ⟨y, σ₃, h3, r3, g3, t3⟩ := h₃
  refine wpAny_mono (h3 s₃ g3) (fun vz s₄ h₄ => ?_) fun _ _ e => e
  obtain ⟨z, σ₄, h4, r4, g4, t4⟩ := h₄
  have k := keeps_push s₄.heap { cls := .type "slice", data := .fields #[vx, vy, vz] }
  have t5 : Wy (fz stk) σ₄ s₄.heap σ₄ (s₄.heap.push { cls := .type "slice", data := .fields #[vx, vy, vz] }) := .keeps k
  have g5 : Gd D stk σ₄ { s₄ with heap := s₄.heap.push { cls := .type "slice", data := .fields #[vx, vy, vz] } } := g4.keeps k rfl rfl
  exact pv_mono ((((t1.trans t2).trans t3).trans t4).trans t5) (h4 { s₄ with heap := s₄.heap.push { cls := .type "slice", data := .fields #[vx, vy, vz] } } v s₄.heap.objs.size vx vy vz g5
    ((((r1.st t2.st).st t3.st).st t4.st).st t5.st) (((r2.st t3.st).st t4.st).st t5.st) ((r3.st t4.st).st t5.st) (r4.st t5.st) (Heap.IsSliceOf.new ..))

def pick {α : Type} (xs : List α) (lo hi st : Option Int) : List α :=
  (sliceRange (sliceBounds lo hi st xs.length).1 (sliceBounds lo hi st xs.length).2.1 (sliceBounds lo hi st xs.length).2.2).filterMap (xs[·]?)
theorem RepVs.places {h : Heap} {xs : List V} {vs : List Value} (r : RepVs h xs vs) (is : List Nat) : RepVs h (is.filterMap (xs[·]?)) (is.filterMap (vs[·]?)) := by
  induction is with
  | nil => exact .nil
  | cons i is ih =>
    simp only [List.filterMap_cons]
    cases e : xs[i]? with
    | none =>
      have : vs[i]? = none := by
        rw [List.getElem?_eq_none_iff] at e ⊢; rw [r.length]; exact e
      rw [this]; exact ih
    | some x => obtain ⟨v, hv, rv⟩ := r.get e; rw [hv]; exact .cons rv ih
theorem RepVs.pick {h : Heap} {xs : List V} {vs : Array Value} (r : RepVs h xs vs.toList) (lo hi st : Option Int) : RepVs h (Mine.pick xs lo hi st) (slicePick vs lo hi st).toList := by
  have e : vs.size = xs.length := by simpa using r.length
  have := r.places (sliceRange (sliceBounds lo hi st xs.length).1 (sliceBounds lo hi st xs.length).2.1 (sliceBounds lo hi st xs.length).2.2)
  unfold Mine.pick slicePick
  rw [e]
  simpa using this
theorem pick_length {α : Type} (xs : List α) (lo hi st : Option Int) : (pick xs lo hi st).length ≤ (sliceRange (sliceBounds lo hi st xs.length).1 (sliceBounds lo hi st xs.length).2.1 (sliceBounds lo hi st xs.length).2.2).length := List.length_filterMap_le _ _

theorem sl_list {ve ie : Expr} {a : Addr} {xs : List V} {x y z : V} {lo hi st : Option Int} (ha : σ a = some (.lst xs)) (px : PartV x lo) (py : PartV y hi) (pz : PartV z st) (h0 : st ≠ some 0) (hz : xs.length ≤ sizeLine)
    (h : ∀ b, σ b = none → Q (.ref b) (upd σ b (.lst (pick xs lo hi st))))
    (hs : ∃ f : Addr → List Value, ∀ sl, subscripted ie false (.ref a) (.ref sl) = operate (f sl) (getItem (.ref a) (.ref sl)) := by exact ⟨_, fun sl => by with_unfolding_all rfl⟩) :
    Sl D A stk ve ie (.ref a) x y z σ X Q := fun s v sl vx vy vz G ra rx ry rz hS => by
  cases ra
  obtain ⟨vs, hl, hr, hn⟩ := (G.rel _ _ ha).isList
  obtain ⟨f, hf⟩ := hs
  obtain ⟨g, t, n⟩ := G.newList (hr.pick lo hi st)
  exact tail_any hl.typeIs slot_list_getitem.lookup (wpAny_getItem_list_slice hl hS (px.is rx) (py.is ry) (pz.is rz) h0 (pv (h _ n) (.ref _) g t) (by rw [hn]; exact hz)) (hf _)

/-- a tuple's slice with parts from 0 on -/
inductive PartN : V → Option Nat → Prop
  | none : PartN .none none
  | int (i : Nat) : PartN (.int i) (some i)
def cut {α : Type} (xs : List α) (lo hi : Option Nat) : List α := (xs.drop (min (lo.getD 0) xs.length)).take (min (hi.getD xs.length) xs.length - min (lo.getD 0) xs.length)
theorem adjustN (lo hi : Option Nat) (n : Nat) : Builtin.Slice.sliceAdjust (lo.map Int.ofNat) (hi.map Int.ofNat) 1 (n : Int) = (((min (lo.getD 0) n : Nat) : Int), ((min (hi.getD n) n : Nat) : Int)) := by
  unfold Builtin.Slice.sliceAdjust
  have h1 : ¬ ((1 : Int) < 0) := by omega
  simp only [h1, if_false]
  cases lo with
  | none => cases hi with
    | none => simp
    | some b =>
      have hb : ¬ ((Int.ofNat b) < 0) := by simp
      simp [hb]
      omega
  | some a =>
    have ha : ¬ ((Int.ofNat a) < 0) := by simp
    cases hi with
    | none => simp [ha]; omega
    | some b =>
      have hb : ¬ ((Int.ofNat b) < 0) := by simp
      simp [ha, hb]; omega
theorem placesN (a b : Nat) : Builtin.Slice.slicePlaces (a : Int) (b : Int) 1 = b - a := by
  unfold Builtin.Slice.slicePlaces
  have h1 : (1 : Int) > 0 := by omega
  simp only [h1, if_true, Int.ediv_one]
  split <;> omega
theorem PartN.is {x : V} {k : Option Nat} {h : Heap} {v : Value} (p : PartN x k) (r : RepV h x v) : IsPart v (k.map Int.ofNat) := by
  cases p with
  | none => cases r; exact .none
  | int i => cases r; exact .int _ _
theorem partIndex {M : Model} {E : Value → Shared → Prop} {pr : Program} {w : World} {v : Value} {k : Option Int} {Q : Option Int → Shared → Prop} (p : IsPart v k) (h : Q k s) : wpAny (model pr w) A (Builtin.Slice.slicePartIndex v) Q E s := by
  cases p with
  | none => exact slicePart_none h
  | int i t => exact slicePart_int h
theorem appliedN {E : Value → Shared → Prop} {pr : Program} {w : World} {sl : Addr} {vx vy : Value} {lo hi : Option Nat} {n : Nat} {Q : Int × Int × Nat → Shared → Prop} (hs : s.heap.IsSliceOf sl vx vy .none) (px : IsPart vx (lo.map Int.ofNat)) (py : IsPart vy (hi.map Int.ofNat))
    (h : Q (((min (lo.getD 0) n : Nat) : Int), 1, min (hi.getD n) n - min (lo.getD 0) n) s) :
    wpAny (model pr w) A (Builtin.Slice.sliceApplied (.ref sl) (pure (n : Int))) Q E s := by
  obtain ⟨os, hos, hcs, hds⟩ := id hs
  unfold Builtin.Slice.sliceApplied Builtin.Slice.sliceFields
  refine wpAny_bind (wpAny_bind (wpAny_field hos hds (x := vx) rfl (wpAny_bind (wpAny_field hos hds (x := vy) rfl (wpAny_bind (wpAny_field hos hds (x := .none) rfl (wpAny_pure ?_)))))))
  refine wpAny_bind (slicePart_none ?_)
  show wpAny _ _ (if ((1 : Int) == 0) = true then _ else _) _ _ s
  rw [if_neg (by decide)]
  refine wpAny_bind (partIndex (M := model pr w) px (wpAny_bind (partIndex (M := model pr w) py (wpAny_bind (wpAny_pure ?_)))))
  show wpAny _ _ (match Builtin.Slice.sliceAdjust (lo.map Int.ofNat) (hi.map Int.ofNat) 1 (n : Int) with | (lo, hi) => pure (lo, (1 : Int), Builtin.Slice.slicePlaces lo hi 1)) _ _ s
  rw [adjustN]
  show wpAny _ _ (pure (((min (lo.getD 0) n : Nat) : Int), (1 : Int), Builtin.Slice.slicePlaces ((min (lo.getD 0) n : Nat) : Int) ((min (hi.getD n) n : Nat) : Int) 1)) _ _ s
  rw [placesN]
  exact wpAny_pure h
theorem pickN (xs : Array Value) (a m : Nat) : ((List.range m).filterMap fun (k : Nat) => xs[((a : Int) + (k : Int) * 1).toNat]?) = (xs.toList.drop a).take m := by
  have e : (fun (k : Nat) => xs[((a : Int) + (k : Int) * 1).toNat]?) = fun k => xs[a + k]? := by
    funext k
    have : ((a : Int) + (k : Int) * 1).toNat = a + k := by omega
    rw [this]
  rw [e]
  have := pick_run xs a m
  rw [List.filterMap_map] at this
  exact this
theorem cut_length {α : Type} (xs : List α) (lo hi : Option Nat) : (cut xs lo hi).length ≤ xs.length := by unfold cut; simp; omega
theorem getItem_tupN {E : Value → Shared → Prop} {pr : Program} {w : World} {t sl : Addr} {items : Array Value} {vx vy : Value} {lo hi : Option Nat} {Q : Value → Shared → Prop} (ht : IsTup s.heap t items) (hs : s.heap.IsSliceOf sl vx vy .none) (px : IsPart vx (lo.map Int.ofNat)) (py : IsPart vy (hi.map Int.ofNat))
    (h1 : cut items.toList lo hi = items.toList → Q (.ref t) s)
    (h2 : Q (.ref s.heap.objs.size) { s with heap := s.heap.push { cls := .type "tuple", data := .seq (cut items.toList lo hi).toArray } })
    (hsz : items.size ≤ sizeLine) : wpAny (model pr w) A (getItem (.ref t) (.ref sl)) Q E s := by
  have hz : sizeOk (.seq (cut items.toList lo hi).toArray) := by
    show (cut items.toList lo hi).toArray.size ≤ sizeLine
    have := cut_length items.toList lo hi
    simp only [List.size_toArray, Array.length_toList] at this ⊢
    omega
  obtain ⟨os, hos, hcs, hds⟩ := id hs
  have hTs : s.TypeIs (.ref sl) "slice" := ⟨os, hos, hcs⟩
  unfold getItem
  try with_reducible refine wpAny_holding ?_
  first | refine wpAny_bind (wpAny_pure ?_) | skip
  refine wpAny_bind (wpAny_sequenceKey ht.typeIs (by decide) ?_)
  refine wpAny_bind (wpAny_callSpecial?_slot (name := Str.ofString "__getitem__") ht.typeIs slot_tuple_getitem
    (wpAny_call_entry slot_tuple_getitem ht.typeIs entry_tuple_getitem ?_ (args_tuple_getitem _ _)))
  show wpAny _ _ (Builtin.Tuple.tupleItemsOf (.ref t) >>= _) _ _ s
  refine wpAny_bind (tupleItemsOf_ ht ?_)
  refine wpAny_bind (wpAny_typeOf hTs ?_)
  rw [if_pos (by decide)]
  refine wpAny_bind (appliedN (n := items.size) hs px py ?_)
  have ep : ((List.range (min (hi.getD items.size) items.size - min (lo.getD 0) items.size)).filterMap fun (k : Nat) => items[(((min (lo.getD 0) items.size : Nat) : Int) + (k : Int) * 1).toNat]?) = cut items.toList lo hi := by
    rw [pickN]; unfold cut; simp
  by_cases hc : ((((min (lo.getD 0) items.size : Nat) : Int) == 0 && (1 : Int) == 1 && (min (hi.getD items.size) items.size - min (lo.getD 0) items.size) == items.size) = true)
  · show wpAny _ _ (if ((((min (lo.getD 0) items.size : Nat) : Int) == 0 && (1 : Int) == 1 && (min (hi.getD items.size) items.size - min (lo.getD 0) items.size) == items.size)) = true then _ else _) _ _ s
    rw [if_pos hc]
    have e : cut items.toList lo hi = items.toList := by
      simp only [Bool.and_eq_true, beq_iff_eq] at hc
      have h0 : min (lo.getD 0) items.size = 0 := by omega
      unfold cut
      simp only [Array.length_toList]
      rw [hc.2, h0, List.drop_zero, List.take_of_length_le (by simp)]
    have q := h1 e
    obtain ⟨o, ho, hco, n, hd⟩ := ht
    have hob : (o.cls == Value.type "tuple") = true := by rw [hco]; decide
    repeat (first | (with_reducible refine wpAny_loadPart_at ho ?_; rw [hob]) | with_reducible refine wpAny_loadPart ho ?_ | (rw [hob]) | (rw [if_pos rfl]) | wp_step)
    exact ⟨_, rfl, wpAny_pure q⟩
  · show wpAny _ _ (if ((((min (lo.getD 0) items.size : Nat) : Int) == 0 && (1 : Int) == 1 && (min (hi.getD items.size) items.size - min (lo.getD 0) items.size) == items.size)) = true then _ else _) _ _ s
    rw [if_neg hc, ep]
    exact wpAny_bind (m := Builtin.Tuple.tupleExact _) (wpAny_newObj_type (wpAny_pure ⟨_, rfl, wpAny_pure h2⟩) hz)
theorem RepVs.cut {h : Heap} {xs : List V} {vs : List Value} (r : RepVs h xs vs) (lo hi : Option Nat) : RepVs h (Mine.cut xs lo hi) (Mine.cut vs lo hi) := by
  unfold Mine.cut
  rw [r.length]
  exact (r.drop _).take _
theorem sl_tup {ve ie : Expr} {xs : List V} {x y : V} {lo hi : Option Nat} (px : PartN x lo) (py : PartN y hi) (hz : xs.length ≤ sizeLine) (h : Q (.tup (cut xs lo hi)) σ)
    (hs : ∃ f : Addr → Addr → List Value, ∀ a sl, subscripted ie false (.ref a) (.ref sl) = operate (f a sl) (getItem (.ref a) (.ref sl)) := by exact ⟨_, fun a sl => by with_unfolding_all rfl⟩) :
    Sl D A stk ve ie (.tup xs) x y .none σ X Q := fun s v sl vx vy vz G ra rx ry rz hS => by
  obtain ⟨a, vs, n, rfl, ht, hr, hn⟩ := ra.isTupO
  have ht' : IsTup s.heap a vs := ⟨_, ht, rfl, n, rfl⟩
  cases rz
  obtain ⟨f, hf⟩ := hs
  obtain ⟨g, t, r⟩ := G.newTup (hr.cut lo hi)
  refine tail_any (T := "tuple") ht'.typeIs slot_tuple_getitem.lookup (getItem_tupN ht' hS (px.is rx) (py.is ry) (fun e => ?_) (pv h r g t) (by rw [hn]; exact hz)) (hf _ _)
  refine pv h (.tup ht ?_) G (.refl _)
  have := hr.cut lo hi
  rw [e] at this
  exact this
end

inductive Fl where
  | next | brk | cont
  | ret (x : V)
inductive RepFl (h : Heap) : Fl → Flow → Prop
  | next : RepFl h .next .next
  | brk : RepFl h .brk .brk
  | cont : RepFl h .cont .cont
  | ret {x : V} {v : Value} : RepV h x v → RepFl h (.ret x) (.ret v)
theorem RepFl.st {h h' : Heap} (s : St h h') {f : Fl} {g : Flow} (r : RepFl h f g) : RepFl h' f g := by
  cases r with
  | next => exact .next
  | brk => exact .brk
  | cont => exact .cont
  | ret r => exact .ret (r.st s)

theorem RepVs.set {h : Heap} {xs : List V} {x : V} {v : Value} (rx : RepV h x v) : ∀ {vs : List Value} (r : RepVs h xs vs) (k : Nat), RepVs h (xs.set k x) (vs.set k v) := by
  induction xs with
  | nil => intro vs r k; cases r; exact .nil
  | cons y xs ih => intro vs r k; cases r with | cons a b => cases k with
    | zero => exact .cons rx b
    | succ k => exact .cons a (ih b k)
section
variable {D : Wd} {A : Around} {stk : List (Env × Loc)} {env : Env} {l l' : Loc} {σ σ' : Sto} {s s' : Shared} {X : Value → Shared → Prop} {Q : V → Sto → Prop}

/-- a name of the frame is stored -/
theorem Gd.store (G : Gd D ((env, l) :: stk) σ s) {x : Str} {xv : V} {v : Value} {m' : Str → Option Value} {h' : Heap} {tk : Tok} (r : RepV s.heap xv v)
    (hn : ∀ m, s.heap.Ns env.locals m → h'.Ns env.locals (fun y => if y = x then some v else m y)) (hs : Heap.SameBut env.locals s.heap h') :
    Gd D ((env, (x, xv) :: l) :: stk) σ { s with heap := h', toks := tk } ∧ Wy (fz ((env, l) :: stk)) σ s.heap σ h' := by
  obtain ⟨h1, hR, h3⟩ := G.frs _ (.head _)
  obtain ⟨ob, e1, e3, _⟩ := hR.shape
  have k : ∀ b o, b ≠ env.locals → s.heap.get? b = some o → h'.get? b = some o := fun b o q e => (hs.2 b q).trans e
  have S : St s.heap h' := .but e1 e3 k
  refine ⟨⟨fun b o e => k b o (fun q => by rw [q, h1] at e; cases e) (G.stays b o e), fun a o e => (G.rel a o e).but S k (fun q => by rw [q, h3] at e; cases e), G.fresh, fun p hp => ?_, G.nd, G.gens, G.os⟩, S, fun b o e n f => ⟨k b o (fun q => f (by rw [q]; exact .head _)) e, n⟩⟩
  rcases List.mem_cons.mp hp with rfl | hp
  · obtain ⟨m, hm, hr⟩ := hR
    refine ⟨h1, ⟨_, hn m hm, fun y w hy => ?_⟩, h3⟩
    show ∃ v', (if y = x then some v else m y) = some v' ∧ RepV h' w v'
    rw [List.lookup_cons] at hy
    by_cases q : y = x
    · subst q
      rw [beq_self_eq_true] at hy
      cases hy
      exact ⟨v, by rw [if_pos rfl], r.st S⟩
    · rw [beq_false_of_ne q] at hy
      obtain ⟨v', a, b⟩ := hr y w hy
      exact ⟨v', by rw [if_neg q]; exact a, b.st S⟩
  · obtain ⟨a, b, c⟩ := G.frs p (.tail _ hp)
    refine ⟨a, b.but S k fun q => ?_, c⟩
    have := G.nd
    simp only [List.map_cons, List.nodup_cons] at this
    exact this.1 (q ▸ List.mem_map_of_mem (f := fun p : Env × Loc => p.1.locals) hp)
/-- fewer names are kept -/
theorem Gd.locs (G : Gd D ((env, l) :: stk) σ s) (h : ∀ x v, l'.lookup x = some v → l.lookup x = some v) : Gd D ((env, l') :: stk) σ s := by
  refine ⟨G.stays, G.rel, G.fresh, fun p hp => ?_, G.nd, G.gens, G.os⟩
  rcases List.mem_cons.mp hp with rfl | hp
  · obtain ⟨a, ⟨m, hm, hr⟩, c⟩ := G.frs _ (.head _)
    exact ⟨a, ⟨m, hm, fun x v e => hr x v (h x v e)⟩, c⟩
  · exact G.frs p (.tail _ hp)
theorem Gd.pop (G : Gd D ((env, l) :: stk) σ s) : Gd D stk σ s :=
  ⟨G.stays, G.rel, G.fresh, fun p hp => G.frs p (.tail _ hp), (List.nodup_cons.mp (by simpa using G.nd)).2, G.gens, G.os⟩

def PF (D : Wd) (stk : List (Env × Loc)) (env : Env) (σ : Sto) (s : Shared) (K : Fl → Loc → Sto → Prop) : Flow → Shared → Prop :=
  fun f s' => ∃ fl l' σ', K fl l' σ' ∧ RepFl s'.heap fl f ∧ Gd D ((env, l') :: stk) σ' s' ∧ Wy (env.locals :: fz stk) σ s.heap σ' s'.heap
def Ex (D : Wd) (A : Around) (stk : List (Env × Loc)) (env : Env) (st : Stmt) (l : Loc) (σ : Sto) (X : Value → Shared → Prop) (K : Fl → Loc → Sto → Prop) : Prop :=
  ∀ s, Gd D ((env, l) :: stk) σ s → wpAny (Mo D) A (exec st env) (PF D stk env σ s K) X s
def Exs (D : Wd) (A : Around) (stk : List (Env × Loc)) (env : Env) (sts : List Stmt) (l : Loc) (σ : Sto) (X : Value → Shared → Prop) (K : Fl → Loc → Sto → Prop) : Prop :=
  ∀ s, Gd D ((env, l) :: stk) σ s → wpAny (Mo D) A (execs sts env) (PF D stk env σ s K) X s
variable {K : Fl → Loc → Sto → Prop}
theorem pf_mono {M : Model} {σ₀ σ₁ : Sto} {s₀ s₁ : Shared} {t : Sem Flow} (S : Wy (env.locals :: fz stk) σ₀ s₀.heap σ₁ s₁.heap) (h : wpAny M A t (PF D stk env σ₁ s₁ K) X s) : wpAny M A t (PF D stk env σ₀ s₀ K) X s :=
  wpAny_mono h (fun _ _ ⟨a, b, c, q, r, g, t⟩ => ⟨a, b, c, q, r, g, S.trans t⟩) fun _ _ e => e
theorem exs_nil (h : K .next l σ) : Exs D A stk env [] l σ X K := fun s G => wpAny_execs_nil ⟨_, _, _, h, .next, G, .refl _⟩
def Nx (D : Wd) (A : Around) (stk : List (Env × Loc)) (env : Env) (rest : List Stmt) (X : Value → Shared → Prop) (K : Fl → Loc → Sto → Prop) : Fl → Loc → Sto → Prop
  | .next, l, σ => Exs D A stk env rest l σ X K
  | f, l, σ => K f l σ
theorem exs_cons {st : Stmt} {rest : List Stmt} (h : Ex D A stk env st l σ X (Nx D A stk env rest X K)) : Exs D A stk env (st :: rest) l σ X K := fun s G => by
  refine wpAny_execs_cons (wpAny_mono (h s G) (fun f s₁ h₁ => ?_) fun _ _ e => e)
  obtain ⟨fl, l₁, σ₁, h1, r1, g1, t1⟩ := h₁
  cases r1 with
  | next => exact pf_mono t1 (h1 s₁ g1)
  | brk => exact ⟨_, _, _, h1, .brk, g1, t1⟩
  | cont => exact ⟨_, _, _, h1, .cont, g1, t1⟩
  | ret r => exact ⟨_, _, _, h1, .ret r, g1, t1⟩
theorem ex_return {e : Expr} {p : Pos} (h : Ev D A ((env, l) :: stk) env e σ X fun v σ₁ => K (.ret v) l σ₁) : Ex D A stk env (.Return (some e) p) l σ X K := fun s G => by
  refine wpAny_Return_some (wpAny_mono (h s G) (fun v s₁ h₁ => ?_) fun _ _ e => e)
  obtain ⟨x, σ₁, h1, r1, g1, t1⟩ := h₁
  exact ⟨_, _, _, h1, .ret r1, g1, t1⟩
theorem ex_break {p : Pos} (h : K .brk l σ) : Ex D A stk env (.Break p) l σ X K := fun s G => wpAny_Break ⟨_, _, _, h, .brk, G, .refl _⟩
theorem ex_continue {p : Pos} (h : K .cont l σ) : Ex D A stk env (.Continue p) l σ X K := fun s G => wpAny_Continue ⟨_, _, _, h, .cont, G, .refl _⟩
theorem ex_if {t : Expr} {b o : List Stmt} {p : Pos} (h : Tv D A ((env, l) :: stk) env t σ X fun c σ₁ => if c then Exs D A stk env b l σ₁ X K else Exs D A stk env o l σ₁ X K) : Ex D A stk env (.If t b o p) l σ X K := fun s G => by
  refine wpAny_If (wpAny_mono (h s G) (fun c s₁ h₁ => ?_) fun _ _ e => e)
  obtain ⟨σ₁, h1, g1, t1⟩ := h₁
  cases c with
  | false => exact pf_mono t1 (h1 s₁ g1)
  | true => exact pf_mono t1 (h1 s₁ g1)
/-- storing -/
def As (D : Wd) (A : Around) (stk : List (Env × Loc)) (env : Env) (x : Str) (v : V) (l : Loc) (σ : Sto) (X : Value → Shared → Prop) (R : Loc → Sto → Prop) : Prop :=
  ∀ s u, Gd D ((env, l) :: stk) σ s → RepV s.heap v u → wpAny (Mo D) A (storeName env x u) (fun _ s' => ∃ l' σ', R l' σ' ∧ Gd D ((env, l') :: stk) σ' s' ∧ Wy (env.locals :: fz stk) σ s.heap σ' s'.heap) X s
variable {R : Loc → Sto → Prop}
theorem as_local {x : Str} {v : V} (h : R ((x, v) :: l) σ) (hl : env.kindOf x = some .local := by rfl) (hk : env.scope.kind = .function := by rfl) : As D A stk env x v l σ X R := fun s u G r => by
  obtain ⟨m, hm, _⟩ := (G.frs _ (.head _)).2.1
  refine wpAny_storeName_local hl hm (fun h' hn hs => ?_) (by rw [hk]; rfl)
  obtain ⟨g, t⟩ := G.store (m' := m) (tk := s.toks + 1) r (fun m₁ hm₁ => by
    obtain ⟨o, es, ep, ho, hd, hq, hf⟩ := hm
    obtain ⟨o', es', ep', ho', hd', hq', hf'⟩ := hm₁
    rw [ho] at ho'; cases ho'; rw [hd] at hd'; cases hd'
    have : m₁ = m := funext fun y => (hf' y).symm.trans (hf y)
    rw [this]; exact hn) hs
  exact ⟨_, _, h, g, t⟩
theorem as_cell {x : Str} {v : V} {c : Addr} {v₀ : Option V} (hc : env.cells.lookup x = some c) (hv : σ c = some (.cell v₀)) (h : R l (upd σ c (.cell (some v)))) (hl : env.kindOf x = some .cell := by rfl) (hk : env.scope.kind = .function := by rfl) : As D A stk env x v l σ X R := fun s u G r => by
  obtain ⟨o, v', ho, hod, hrest⟩ := G.rel _ _ hv
  refine wpAny_storeName_cell hk hl hc ⟨o, ho, hod⟩ (fun h' hi hs => ?_)
  obtain ⟨g, t⟩ := G.setAt (s' := { s with heap := h' }) (o' := .cell (some v)) hv (fun b o q e => (hs.2 b q).trans e) (fun S => by
    obtain ⟨o', ho', hd'⟩ := hi
    exact ⟨o', some u, ho', hd', u, rfl, r.st S⟩) rfl rfl
  exact ⟨_, _, h, g, t⟩
theorem ex_assign {x : Str} {e : Expr} {p p' : Pos} (h : Ev D A ((env, l) :: stk) env e σ X fun v σ₁ => As D A stk env x v l σ₁ X fun l' σ' => K .next l' σ')
    (hs : swapsWith e (some (.Name x p')) p.line env = pure false := by rfl) : Ex D A stk env (.Assign [.Name x p'] e p) l σ X K := fun s G => by
  refine wpAny_Assign_Name (wpAny_mono (h s G) (fun v s₁ h₁ => ?_) fun _ _ e => e) hs
  obtain ⟨y, σ₁, h1, r1, g1, t1⟩ := h₁
  refine wpAny_mono (h1 s₁ v g1 r1) (fun _ s₂ h₂ => ?_) fun _ _ e => e
  obtain ⟨l', σ', h2, g2, t2⟩ := h₂
  exact ⟨_, _, _, h2, .next, g2, Wy.trans t1 t2⟩
theorem ex_aug {x : Str} {op : Operator} {e : Expr} {p p' : Pos} {old : V} (ho : l.lookup x = some old) (h : Ev D A ((env, l) :: stk) env e σ X fun v σ₁ => Op2 D ((env, l) :: stk) (inplaceOp op) A old v σ₁ X fun r σ₂ => As D A stk env x r l σ₂ X fun l' σ' => K .next l' σ')
    (hl : env.kindOf x = some .local := by rfl) (hk : env.scope.kind = .function := by rfl) : Ex D A stk env (.AugAssign (.Name x p') op e p) l σ X K := fun s G => by
  obtain ⟨m, hm, hr⟩ := (G.frs _ (.head _)).2.1
  obtain ⟨ov, h1, r0⟩ := hr x old ho
  refine wpAny_AugAssign_Name (wpAny_loadName_local hk hl hm h1 (wpAny_mono (h s G) (fun v s₁ h₁ => ?_) fun _ _ e => e))
  obtain ⟨y, σ₁, h1, r1, g1, t1⟩ := h₁
  refine wpAny_mono (h1 s₁ ov v g1 (r0.st t1.st) r1) (fun r s₂ h₂ => ?_) fun _ _ e => e
  obtain ⟨z, σ₂, h2, r2, g2, t2⟩ := h₂
  refine wpAny_mono (h2 s₂ r g2 r2) (fun _ s₃ h₃ => ?_) fun _ _ e => e
  obtain ⟨l', σ', h3, g3, t3⟩ := h₃
  exact ⟨_, _, _, h3, .next, g3, Wy.trans (Wy.trans t1 t2) t3⟩
theorem ex_expr {e : Expr} {p : Pos} (h : Ev D A ((env, l) :: stk) env e σ X fun _ σ₁ => K .next l σ₁) (hi : interactive env = false := by rfl) (hs : swapsWith e none p.line env = pure false := by rfl) : Ex D A stk env (.Expr e p) l σ X K := fun s G => by
  refine wpAny_Expr_any (wpAny_mono (h s G) (fun v s₁ h₁ => ?_) fun _ _ e => e) hi hs
  obtain ⟨x, σ₁, h1, r1, g1, t1⟩ := h₁
  exact ⟨_, _, _, h1, .next, g1, t1⟩
/-- xs[i] = e -/
theorem ex_setitem {oe ie e : Expr} {p p' : Pos} (h : Ev D A ((env, l) :: stk) env e σ X fun v σ₁ => Ev D A ((env, l) :: stk) env oe σ₁ X fun a σ₂ => Ev D A ((env, l) :: stk) env ie σ₂ X fun i σ₃ =>
      ∃ ad xs k, a = .ref ad ∧ i = .int k ∧ σ₃ ad = some (.lst xs) ∧ 0 ≤ k ∧ k < 2 ^ 63 ∧ k < xs.length ∧ K .next l (upd σ₃ ad (.lst (xs.set k.toNat v))))
    (hs : swapsWith e (some (.Subscript oe ie p')) p.line env = pure false := by rfl) : Ex D A stk env (.Assign [.Subscript oe ie p'] e p) l σ X K := fun s G => by
  refine wpAny_Assign_Subscript (wpAny_mono (h s G) (fun v s₁ h₁ => ?_) fun _ _ e => e) hs
  obtain ⟨x, σ₁, h1, r1, g1, t1⟩ := h₁
  refine wpAny_mono (h1 s₁ g1) (fun ov s₂ h₂ => ?_) fun _ _ e => e
  obtain ⟨a, σ₂, h2, r2, g2, t2⟩ := h₂
  refine wpAny_mono (h2 s₂ g2) (fun iv s₃ h₃ => ?_) fun _ _ e => e
  obtain ⟨i, σ₃, ⟨ad, xs, k, rfl, rfl, ha, h0, hk, hlt, hK⟩, r3, g3, t3⟩ := h₃
  cases r2; cases r3
  obtain ⟨vs, n, ho, hr⟩ := g3.rel _ _ ha
  have hz : vs.size = xs.length := by simpa using hr.length
  have rx := (r1.st t2.st).st t3.st
  refine ki_setAt ho h0 hk (by omega) ?_
  obtain ⟨g, t⟩ := g3.setAt (s' := { s₃ with heap := s₃.heap.update ad (Obj.mapSeq (·.setIfInBounds k.toNat v)) }) (o' := .lst (xs.set k.toNat x)) ha (fun b o q e => (Heap.get?_update_other _ _ (Ne.symm q)).trans e) (fun S => by
    refine ⟨vs.setIfInBounds k.toNat v, n, ?_, ?_⟩
    · show (s₃.heap.update ad _).get? ad = _
      rw [Heap.get?_update_self _ ho (by simp [Obj.mapSeq, Obj.isFreed])]
      simp [Obj.mapSeq]
    · rw [Array.toList_setIfInBounds]
      exact RepVs.set (rx.st S) (hr.st S) _) rfl rfl
  exact ⟨_, _, _, hK, .next, g, Wy.trans (Wy.trans (Wy.trans t1 t2) t3) t⟩
end

section
variable {D : Wd} {A : Around} {stk : List (Env × Loc)} {env : Env} {l l' : Loc} {σ σ' : Sto} {s s' : Shared} {X : Value → Shared → Prop} {Q : V → Sto → Prop}

/-- a call on values -/
def Cl (D : Wd) (A : Around) (stk : List (Env × Loc)) (f : Value) (xs : List V) (σ : Sto) (X : Value → Shared → Prop) (Q : V → Sto → Prop) : Prop :=
  ∀ s vs, Gd D stk σ s → RepVs s.heap xs vs → wpAny (Mo D) A (call f vs) (PV D stk σ s Q) X s
theorem not_ref_keeps {M : Model} {f : Value} (hf : ∀ a, f ≠ .ref a) (h : Heap) : ∃ k, (k = Keeper.frame ∨ k = Keeper.machine ∨ k = Keeper.boundFrame) ∧ Looks M h (keeperOf f) k := by
  refine ⟨.machine, .inr (.inl rfl), ?_⟩
  refine Looks.of_pure ?_
  unfold keeperOf
  cases f <;> first | rfl | exact (hf _ rfl).elim
theorem plain_args (pos : Pos) (env : Env) (es : List Expr) (h : es.all (fun e => !isStarred e) = true) : (backTo pos (starEach es env)).any (·.1) = false := by
  induction es with
  | nil => rfl
  | cons e es ih =>
    simp only [List.all_cons, Bool.and_eq_true] at h
    cases e <;> first | (exact ih h.2) | (simp [isStarred] at h)
theorem evalArgs_sp {M : Model} {E : Value → Shared → Prop} {f : Value} {pos : Pos} {es : List Expr} {Q : Args → Shared → Prop} (hp : es.all (fun e => !isStarred e) = true)
    (h : wpAny M A (spliced (backTo pos (starEach es env))) (fun vs s' => Q ⟨vs, []⟩ s') E s) : wpAny M A (evalArgs f true (backTo pos (starEach es env)) []) Q E s := by
  cases es with
  | nil =>
    unfold evalArgs
    show wpAny M A (spliced [] >>= _) Q E s
    refine wpAny_bind (wpAny_mono h (fun vs s' h' => ?_) fun _ _ x => x)
    refine wpAny_holding ?_
    exact wpAny_bind (wpAny_pure (wpAny_bind (wpAny_pure (wpAny_pure h'))))
  | cons e es =>
    have : starEach (e :: es) env = (false, eval e env) :: starEach es env := by
      cases e <;> first | rfl | (simp [isStarred] at hp)
    rw [this] at h ⊢
    exact evalArgs_plain h
theorem callWith_sp {M : Model} {E : Value → Shared → Prop} {f : Value} {first : List Value} {pos pos' : Pos} {es : List Expr} {Q : Value → Shared → Prop} {P : Heap → Prop} (hp : es.all (fun e => !isStarred e) = true)
    (hk : ∀ h, P h → ∃ k, (k = Keeper.frame ∨ k = Keeper.machine ∨ k = Keeper.boundFrame) ∧ Looks M h (keeperOf f) k)
    (h : wpAny M A (spliced (backTo pos (starEach es env))) (fun vs s₁ => P s₁.heap ∧ wpAny M A (call f (first ++ vs)) Q E s₁) E s) :
    wpAny M A (callWith pos' f first (backTo pos (starEach es env)) []) Q E s :=
  callWith_of (by rw [plain_args pos env es hp]; rfl) hk (evalArgs_sp hp h)
/-- f(..) where f is the text's own -/
theorem ev_callK {fn : Str} {np p : Pos} {es : List Expr} {f : Addr} (b : Bs D) (e : nsIn (Kf D.w) mainGlobals fn = some (some (.ref f))) (hkeep : keepIn (Kf D.w) (.ref f) = true)
    (h : Sp D A stk env p es σ X fun xs σ₁ => Cl D A stk (.ref f) xs σ₁ X Q) (hp : es.all (fun e => !isStarred e) = true := by rfl)
    (hk : env.scope.kind = .function := by rfl) (hl : env.kindOf fn = some .globalImplicit := by rfl) (hg : env.globals = mainGlobals := by rfl)
    (hd : (fn == ("__debug__" : Str)) = false := by decide) : Ev D A stk env (.Call (.Name fn np) es [] p) σ X Q := fun s G => by
  refine wpAny_Call_ofName (wpAny_mono (ev_glob (A := A) (X := X) (Q := fun y σ' => y = .con (.ref f) ∧ σ' = σ) b e (.con _) ⟨rfl, rfl⟩ hk hl hg hd s G) (fun v s₁ h₁ => ?_) fun _ _ e => e)
  obtain ⟨y, σ₁, ⟨rfl, rfl⟩, r1, g1, t1⟩ := h₁
  cases r1
  refine callWith_sp (P := fun h => (Kf D.w).In h) hp (keeps_K hkeep) (wpAny_mono (h s₁ g1) (fun vs s₂ h₂ => ?_) fun _ _ e => e)
  obtain ⟨xs, σ₂, h2, r2, g2, t2⟩ := h₂
  exact ⟨b.kin.keeps g2.stays, pv_mono (t1.trans t2) (h2 s₂ vs g2 r2)⟩
/-- f(..) where f is a built-in -/
theorem ev_callB {fn : Str} {np p : Pos} {es : List Expr} {f : Value} (b : Bs D) (e : nsIn (Kf D.w) mainGlobals fn = some none) (hv : bootBuiltins fn = some f) (hf : ∀ a, f ≠ .ref a)
    (h : Sp D A stk env p es σ X fun xs σ₁ => Cl D A stk f xs σ₁ X Q) (hp : es.all (fun e => !isStarred e) = true := by rfl) (hn : fn ≠ "__name__" := by decide)
    (hk : env.scope.kind = .function := by rfl) (hl : env.kindOf fn = some .globalImplicit := by rfl) (hg : env.globals = mainGlobals := by rfl) (hb : env.builtins = builtinsNs := by rfl)
    (hd : (fn == ("__debug__" : Str)) = false := by decide) : Ev D A stk env (.Call (.Name fn np) es [] p) σ X Q := fun s G => by
  refine wpAny_Call_ofName (wpAny_mono (ev_built (A := A) (X := X) (Q := fun y σ' => y = .con f ∧ σ' = σ) b e hv ⟨rfl, rfl⟩ hn hk hl hg hb hd s G) (fun v s₁ h₁ => ?_) fun _ _ e => e)
  obtain ⟨y, σ₁, ⟨rfl, rfl⟩, r1, g1, t1⟩ := h₁
  cases r1
  refine callWith_sp (P := fun _ => True) hp (fun h _ => not_ref_keeps hf h) (wpAny_mono (h s₁ g1) (fun vs s₂ h₂ => ?_) fun _ _ e => e)
  obtain ⟨xs, σ₂, h2, r2, g2, t2⟩ := h₂
  exact ⟨trivial, pv_mono (t1.trans t2) (h2 s₂ vs g2 r2)⟩

theorem Ao.deeper {n : Nat} (a : Ao A stk (n + 1)) (hf : env.frame = some env.locals) (hk : env.scope.kind = .function) : Ao (A.deeper env) ((env, l) :: stk) n := by
  obtain ⟨h1, ⟨fs, h2, h3⟩, h4, h5⟩ := a
  refine ⟨h1, ⟨env :: fs, by show A.frames.map (env :: ·) = _; rw [h2]; rfl, fun e he => ?_⟩, ?_, ?_⟩
  · rcases List.mem_cons.mp he with rfl | he
    · exact ⟨by simp, hf, by rw [hk]; decide⟩
    · obtain ⟨a, b, c⟩ := h3 e he
      exact ⟨by simp only [List.map_cons]; exact .tail _ a, b, c⟩
  · show A.depth + 1 + 2 * n < recursionLimit; omega
  · show A.units + 3 + 6 * n + 200 < cLine; omega
def retv : Fl → V
  | .ret x => x
  | _ => .none
theorem repM_zip {h : Heap} {names : List Str} : ∀ {xs : List V} {vs : List Value}, RepVs h xs vs → ∀ {ys : Loc} {m : List (Str × Value)}, RepM h (fun y => m.lookup y) ys → RepM h (fun y => ((names.zip vs).reverse ++ m).lookup y) ((names.zip xs).reverse ++ ys) := by
  induction names with
  | nil => intro xs vs _ ys m r; simpa using r
  | cons n names ih =>
    intro xs vs r ys m q
    cases r with
    | nil => simpa using q
    | cons a b =>
      simp only [List.zip_cons_cons, List.reverse_cons, List.append_assoc, List.singleton_append]
      refine ih b (fun y v e => ?_)
      show ∃ v', List.lookup y (_ :: m) = some v' ∧ _
      rw [List.lookup_cons] at e ⊢
      by_cases hy : (y == n) = true
      · rw [hy] at e ⊢; cases e; exact ⟨_, rfl, a⟩
      · rw [Bool.not_eq_true] at hy
        rw [hy] at e ⊢; exact q y v e
/-- what the body's exceptions meet at its end -/
def Lv (D : Wd) (A : Around) (env : Env) (X : Value → Shared → Prop) : Value → Shared → Prop :=
  fun e s' => wpAny (Mo D) (A.deeper env) (leaving env e) (fun _ s'' => X e s'') (fun e' s'' => X e' s'') s'
theorem cl_def {xs ys : List V} {ws : List Value} {f : Addr} {n : Nat} {names : List Str} {name qual : Str} {params : Arguments} {body : List Stmt} {scope : Scope} {dV kV doc pm cdv ct oc : Value} {an od : Option Addr} {osl : Array (Option Value)}
    (b : Bs D) (ao : Ao A stk (n + 1)) (ho : (Kf D.w).lookup f = some ⟨oc, od, .func (fnOf name qual params body scope dV kV doc pm an cdv ct), osl⟩) (hcd : codeIn (Kf D.w) cdv qual = true)
    (hbind : ∀ (s : Shared) (vs : List Value), D.B.StaysIn s.heap → vs.length = xs.length → BindsTo s (fnOf name qual params body scope dV kV doc pm an cdv ct) ⟨vs, []⟩ (names.zip (vs ++ ws)))
    (hw : RepVs D.B ys ws) (hloc : names.all (fun y => scope.names.lookup y == some .local) = true)
    (h : ∀ L, σ L = none → ∀ A', A' = A.deeper (envOf qual scope L f cdv) → Ao A' ((envOf qual scope L f cdv, (names.zip (xs ++ ys)).reverse) :: stk) n →
      Exs D A' stk (envOf qual scope L f cdv) body (names.zip (xs ++ ys)).reverse σ (Lv D A (envOf qual scope L f cdv) X) fun fl _ σ' => Q (retv fl) σ')
    (hk : scope.kind = .function := by rfl) (hco : scope.isCoroutine = false := by rfl) (hgen : scope.isGenerator = false := by rfl) (hcell : scope.names.all (fun y => y.2 != .cell) = true := by rfl) :
    Cl D A stk (.ref f) xs σ X Q := fun s vs G R => by
  obtain ⟨pr, lo, mg, mb, T⟩ := b.top
  have kin := b.kin.keeps G.stays
  have hz : vs.length = xs.length := R.length
  refine wpAny_call (codeAny_call_def (fd := fnOf name qual params body scope dV kV doc pm an cdv ct) (body := body) (binds := names.zip (vs ++ ws)) (by have := ao.depth; omega) (kin _ _ ho) rfl (T.nolimit.keeps G.stays) (codeRec_of kin hcd) rfl (hbind s vs G.stays hz)
    (fun x hx => by have := List.all_eq_true.mp hcell x hx; simpa using this) (fun x hx => ?_) (fun h₀ hns hkp => ?_) hco hgen hk)
  · have hx1 : x.1 ∈ names := List.of_mem_zip hx |>.1
    have := List.all_eq_true.mp hloc _ hx1
    exact beq_iff_eq.mp this
  · have hL : s.heap.get? s.heap.objs.size = none := Heap.get?_none_of_le (Nat.le_refl _)
    have r1 : RepVs h₀ (xs ++ ys) (vs ++ ws) := (R.st (.keeps hkp)).append (hw.st (.keeps fun b o e => hkp b o (G.stays b o e)))
    have rm : RepM h₀ (fun x => List.lookup x (names.zip (vs ++ ws)).reverse) (names.zip (xs ++ ys)).reverse := by
      have := repM_zip (names := names) r1 (ys := []) (m := []) (fun y v e => by simp at e)
      simpa using this
    have g0 : Gd D stk σ { s with heap := h₀, toks := s.toks + (names.zip (vs ++ ws)).length } := G.keeps hkp rfl rfl
    have g1 : Gd D ((envOf qual scope s.heap.objs.size f cdv, (names.zip (xs ++ ys)).reverse) :: stk) σ { s with heap := h₀, toks := s.toks + (names.zip (vs ++ ws)).length } := by
      refine ⟨g0.stays, g0.rel, g0.fresh, fun p hp => ?_, ?_, g0.gens, g0.os⟩
      · rcases List.mem_cons.mp hp with rfl | hp
        · exact ⟨G.base_none hL, ⟨_, hns, rm⟩, G.none_of hL⟩
        · exact g0.frs p hp
      · simp only [List.map_cons, List.nodup_cons]
        refine ⟨fun hm => ?_, G.nd⟩
        obtain ⟨p, hp, e⟩ := List.mem_map.mp hm
        exact G.frame_get hL hp e
    have ao' := ao.deeper (env := envOf qual scope s.heap.objs.size f cdv) (l := (names.zip (xs ++ ys)).reverse) rfl hk
    refine wpAny_mono (h _ (G.none_of hL) _ rfl ao' _ g1) (fun fl s' h' => ?_) fun e s' h' => h'
    obtain ⟨fl', l', σ', hq, rf, g', t'⟩ := h'
    have g2 := g'.pop
    have w2 : Wy (fz stk) σ s.heap σ' s'.heap := by
      refine ⟨(St.keeps hkp).trans t'.st, fun c o e nn fr => t'.tr c o (hkp c o e) nn ?_⟩
      intro hm
      rcases List.mem_cons.mp hm with q | q
      · rw [q] at e
        have : s.heap.get? s.heap.objs.size = some o := e
        rw [hL] at this; cases this
      · exact fr q
    cases rf with
    | next => exact ⟨_, _, hq, .none, g2, w2⟩
    | brk => exact ⟨_, _, hq, .none, g2, w2⟩
    | cont => exact ⟨_, _, hq, .none, g2, w2⟩
    | ret r => exact ⟨_, _, hq, r, g2, w2⟩
end

theorem ifb {c : Bool} {P R : Prop} (h1 : c = true → P) (h2 : c = false → R) : if c = true then P else R := by
  cases c with
  | true => exact h1 rfl
  | false => exact h2 rfl
section
variable {D : Wd} {A : Around} {stk : List (Env × Loc)} {env : Env} {l l' : Loc} {σ σ' : Sto} {s s' : Shared} {X : Value → Shared → Prop} {Q : V → Sto → Prop} {K : Fl → Loc → Sto → Prop} {rest : List Stmt}
theorem nx_next (h : Exs D A stk env rest l σ X K) : Nx D A stk env rest X K .next l σ := h
theorem nx_ret {v : V} (h : K (.ret v) l σ) : Nx D A stk env rest X K (.ret v) l σ := h
theorem nx_brk (h : K .brk l σ) : Nx D A stk env rest X K .brk l σ := h
theorem nx_cont (h : K .cont l σ) : Nx D A stk env rest X K .cont l σ := h
theorem mul_ok {a b : Int} (h1 : -(2 ^ 64) < a) (h2 : a < 2 ^ 64) : IntMulOk a b := .of_left (intBits_le_64 h1 h2)
theorem mul_ok' {a b : Int} (h1 : -(2 ^ 64) < b) (h2 : b < 2 ^ 64) : IntMulOk a b := .of_right (intBits_le_64 h1 h2)
theorem pow_ok {a n : Int} (h1 : -(2 ^ 64) < a) (h2 : a < 2 ^ 64) (h3 : 0 ≤ n) (h4 : n ≤ 1000) : (Builtin.Int.intBits a : Int) * n ≤ 2 ^ 27 := by
  have h : (Builtin.Int.intBits a : Int) ≤ 64 := by exact_mod_cast intBits_le_64 h1 h2
  have h0 : (0 : Int) ≤ (Builtin.Int.intBits a : Int) := Int.natCast_nonneg _
  calc (Builtin.Int.intBits a : Int) * n ≤ 64 * n := Int.mul_le_mul_of_nonneg_right h h3
    _ ≤ 64 * 1000 := by omega
    _ ≤ 2 ^ 27 := by decide
end
section
variable {D : Wd} {A : Around} {stk : List (Env × Loc)} {env : Env} {l l' : Loc} {σ σ' : Sto} {s s' : Shared} {X : Value → Shared → Prop} {Q : V → Sto → Prop} {K : Fl → Loc → Sto → Prop}

/-- a loop's turn goes on to I, or leaves to K -/
def Lp (K : Fl → Loc → Sto → Prop) (I : Loc → Sto → Prop) : Fl → Loc → Sto → Prop
  | .next, l, σ => I l σ
  | .cont, l, σ => I l σ
  | .brk, l, σ => K .next l σ
  | .ret v, l, σ => K (.ret v) l σ
theorem lp_next {I : Loc → Sto → Prop} (h : I l σ) : Lp K I .next l σ := h
theorem lp_cont {I : Loc → Sto → Prop} (h : I l σ) : Lp K I .cont l σ := h
theorem lp_brk {I : Loc → Sto → Prop} (h : K .next l σ) : Lp K I .brk l σ := h
theorem lp_ret {I : Loc → Sto → Prop} {v : V} (h : K (.ret v) l σ) : Lp K I (.ret v) l σ := h

theorem ex_while {t : Expr} {body : List Stmt} {p : Pos} (I : Nat → Loc → Sto → Prop) (n : Nat) (h0 : I n l σ)
    (turn : ∀ n l σ, I n l σ → Tv D A ((env, l) :: stk) env t σ X fun c σ₁ => if c then Exs D A stk env body l σ₁ X (Lp K fun l' σ' => ∃ m, m < n ∧ I m l' σ') else K .next l σ₁)
    (hX : PassesOwn (Mo D) A env X) : Ex D A stk env (.While t body [] p) l σ X K := fun s G => by
  refine wpAny_While (codeAny_whileLoop (fun n s' => ∃ l' σ', I n l' σ' ∧ Gd D ((env, l') :: stk) σ' s' ∧ Wy (env.locals :: fz stk) σ s.heap σ' s'.heap) (fun n s₁ hI => ?_) n ⟨l, σ, h0, G, .refl _⟩)
  obtain ⟨l₁, σ₁, hI, g1, t1⟩ := hI
  refine wpAny_passesOwn hX (wpAny_mono (turn n l₁ σ₁ hI s₁ g1) (fun c s₂ h₂ => ?_) fun _ _ e => e)
  obtain ⟨σ₂, h2, g2, t2⟩ := h₂
  cases c with
  | false => exact wpAny_execs_nil ⟨_, _, _, h2, .next, g2, Wy.trans t1 t2⟩
  | true =>
    refine wpAny_passesOwn hX (wpAny_mono (h2 s₂ g2) (fun f s₃ h₃ => ?_) fun _ _ e => e)
    obtain ⟨fl, l₃, σ₃, h3, r3, g3, t3⟩ := h₃
    have tt := Wy.trans (Wy.trans t1 t2) t3
    cases r3 with
    | next => obtain ⟨m, hm, hi⟩ := h3; exact ⟨m, hm, l₃, σ₃, hi, g3, tt⟩
    | cont => obtain ⟨m, hm, hi⟩ := h3; exact ⟨m, hm, l₃, σ₃, hi, g3, tt⟩
    | brk => exact ⟨_, _, _, h3, .next, g3, tt⟩
    | ret r => exact ⟨_, _, _, h3, .ret r, g3, tt⟩

/-- an iterator with the rest of its items -/
inductive ItIs (own : Option (Addr × List V)) (h : Heap) (ia : Addr) : List V → Prop
  | tup {t : Addr} {vs : Array Value} {n i : Nat} {xs : List V} : h.get? t = some (tupO vs n) → RepVs h xs vs.toList → h.IsTupleIter ia t i → ItIs own h ia (xs.drop i)
  | lst {a : Addr} {xs : List V} {i : Nat} : own = some (a, xs) → h.IsListIter ia a i → ItIs own h ia (xs.drop i)
  | rng {x left : Int} : IsRangeIter h ia x left 1 → ItIs own h ia ((List.range left.toNat).map fun (k : Nat) => .int (x + k))

theorem Gd.but {ia : Addr} (G : Gd D stk σ s) (hu : σ ia = none) (hf : ia ∉ fz stk) (hb : D.B.get? ia = none) (S : St s.heap s'.heap) (k : ∀ b o, b ≠ ia → s.heap.get? b = some o → s'.heap.get? b = some o)
    (hg : s'.gens = s.gens) (ho : s'.os = s.os) : Gd D stk σ s' := by
  refine ⟨fun b o e => k b o (fun q => by rw [q, hb] at e; cases e) (G.stays b o e), fun b o e => (G.rel b o e).but S k (fun q => by rw [q, hu] at e; cases e), G.fresh, fun p hp => ?_, G.nd, hg.trans G.gens, ho.trans G.os⟩
  obtain ⟨x, y, z⟩ := G.frs p hp
  exact ⟨x, y.but S k (fun q => hf (q ▸ List.mem_map_of_mem (f := fun p : Env × Loc => p.1.locals) hp)), z⟩
theorem Wy.skip {fs : List Addr} {σ₀ σ₁ : Sto} {h₀ h₁ h₂ : Heap} {ia : Addr} (x : Wy fs σ₀ h₀ σ₁ h₁) (hn : NN fs σ₀ h₀ ia) (S : St h₁ h₂) (k : ∀ b o, b ≠ ia → h₁.get? b = some o → h₂.get? b = some o) : Wy fs σ₀ h₀ σ₁ h₂ :=
  ⟨x.st.trans S, fun b o e n f => let ⟨e1, n1⟩ := x.tr b o e n f; ⟨k b o (fun q => hn o (q ▸ e) (q ▸ n) (q ▸ f)) e1, n1⟩⟩
theorem ItIs.notTup {own : Option (Addr × List V)} {h : Heap} {ia : Addr} {ys : List V} (i : ItIs own h ia ys) : ∃ o, h.get? ia = some o ∧ ∀ vs n, o ≠ tupO vs n := by
  cases i with
  | tup _ _ hi => obtain ⟨o, ho, hc, _⟩ := hi; exact ⟨o, ho, fun vs n q => by rw [q] at hc; simp at hc⟩
  | lst _ hi => obtain ⟨o, ho, hc, _⟩ := hi; exact ⟨o, ho, fun vs n q => by rw [q] at hc; simp at hc⟩
  | rng hi => exact ⟨_, hi, fun vs n q => by injection q with q1; simp at q1⟩
theorem ItIs.keep {own : Option (Addr × List V)} {h h' : Heap} {ia : Addr} {ys : List V} (i : ItIs own h ia ys) (S : St h h') (k : ∀ o, h.get? ia = some o → h'.get? ia = some o) : ItIs own h' ia ys := by
  cases i with
  | tup ht hr hi => obtain ⟨o, ho, r⟩ := hi; exact .tup (S _ _ _ ht) (hr.st S) ⟨o, k _ ho, r⟩
  | lst ho hi => obtain ⟨o, ho', r⟩ := hi; exact .lst ho ⟨o, k _ ho', r⟩
  | rng hi => exact .rng (k _ hi)
theorem drop_cons_get {α : Type} {xs : List α} {i : Nat} {y : α} {ys : List α} (e : xs.drop i = y :: ys) : xs[i]? = some y ∧ xs.drop (i + 1) = ys := by
  have h1 : i < xs.length := by
    false_or_by_contra
    rw [List.drop_of_length_le (by omega)] at e; cases e
  rw [List.drop_eq_getElem_cons h1] at e
  injection e with e1 e2
  exact ⟨by rw [List.getElem?_eq_getElem h1, e1], e2⟩
theorem range_cons {n : Nat} {x : Int} {y : V} {ys : List V} (e : (List.range n).map (fun (k : Nat) => V.int (x + k)) = y :: ys) : 0 < n ∧ y = .int x ∧ (List.range (n - 1)).map (fun (k : Nat) => V.int (x + 1 + k)) = ys := by
  cases n with
  | zero => simp at e
  | succ n =>
    rw [List.range_succ_eq_map] at e
    simp only [List.map_cons, List.map_map] at e
    injection e with e1 e2
    refine ⟨by omega, by rw [← e1]; simp, ?_⟩
    rw [← e2]
    simp only [Nat.add_sub_cancel]
    apply List.map_congr_left
    intro k _
    show V.int _ = V.int _
    congr 1
    simp only [Nat.succ_eq_add_one]
    omega

/-- the next item -/
theorem next_item {own : Option (Addr × List V)} {ia : Addr} {y : V} {ys : List V} {E : Value → Shared → Prop} (G : Gd D stk σ s) (hown : ∀ a xs, own = some (a, xs) → σ a = some (.lst xs)) (i : ItIs own s.heap ia (y :: ys)) {Q : Option Value → Shared → Prop}
    (h : ∀ v s', RepV s'.heap y v → ItIs own s'.heap ia ys → St s.heap s'.heap → (∀ b o, b ≠ ia → s.heap.get? b = some o → s'.heap.get? b = some o) → s'.gens = s.gens → s'.os = s.os → Q (some v) s') :
    wpAny (Mo D) A (pyNext (.ref ia)) Q E s := by
  obtain ⟨o, ho, hnt⟩ := i.notTup
  generalize hz : y :: ys = zs at i
  cases i with
  | @tup t vs n i xs ht hr hi =>
    obtain ⟨e1, e2⟩ := drop_cons_get hz.symm
    obtain ⟨v, hv, rv⟩ := hr.get e1
    refine wpAny_pyNext_tuple_item hi ⟨_, ht, rfl, n, rfl⟩ (by simpa using hv) (fun h' hi' hs => ?_)
    have k : ∀ b o, b ≠ ia → s.heap.get? b = some o → h'.get? b = some o := fun b o q e => (hs.2 b q).trans e
    have S : St s.heap h' := .but ho hnt k
    exact h v { s with heap := h' } (rv.st S) (e2 ▸ .tup (S _ _ _ ht) (hr.st S) hi') S k rfl rfl
  | @lst a xs i he hi =>
    obtain ⟨e1, e2⟩ := drop_cons_get hz.symm
    obtain ⟨vs, hl, hr, _⟩ := (G.rel _ _ (hown a xs he)).isList
    obtain ⟨v, hv, rv⟩ := hr.get e1
    refine wpAny_pyNext_list_item hi hl (by simpa using hv) (fun h' hi' hs => ?_)
    have k : ∀ b o, b ≠ ia → s.heap.get? b = some o → h'.get? b = some o := fun b o q e => (hs.2 b q).trans e
    have S : St s.heap h' := .but ho hnt k
    exact h v { s with heap := h' } (rv.st S) (e2 ▸ .lst he hi') S k rfl rfl
  | @rng x left hi =>
    obtain ⟨e0, e1, e2⟩ := range_cons hz.symm
    subst e1
    refine wpAny_pyNext_range_item hi (by omega) (fun h' hi' hs => ?_)
    have k : ∀ b o, b ≠ ia → s.heap.get? b = some o → h'.get? b = some o := fun b o q e => (hs.2 b q).trans e
    have S : St s.heap h' := .but ho hnt k
    refine h _ { s with heap := h', toks := s.toks + 1 } (.int _ _) ?_ S k rfl rfl
    rw [← e2]
    have : left.toNat - 1 = (left - 1).toNat := by omega
    rw [this]
    exact .rng hi'
theorem next_end {own : Option (Addr × List V)} {ia : Addr} {E : Value → Shared → Prop} (hh : A.handled = none) (G : Gd D stk σ s) (hown : ∀ a xs, own = some (a, xs) → σ a = some (.lst xs)) (i : ItIs own s.heap ia []) {Q : Option Value → Shared → Prop}
    (h : ∀ s', St s.heap s'.heap → (∀ b o, b ≠ ia → s.heap.get? b = some o → s'.heap.get? b = some o) → s'.gens = s.gens → s'.os = s.os → Q none s') :
    wpAny (Mo D) A (pyNext (.ref ia)) Q E s := by
  obtain ⟨o, ho, hnt⟩ := i.notTup
  generalize hz : ([] : List V) = zs at i
  have fin : ∀ h', Heap.ExtBut ia s.heap h' → Q none { s with heap := h' } := fun h' hs =>
    h { s with heap := h' } (.but ho hnt fun b o q e => hs b o q e) (fun b o q e => hs b o q e) rfl rfl
  cases i with
  | @tup t vs n i xs ht hr hi =>
    refine wpAny_pyNext_tuple_end hh hi ⟨_, ht, rfl, n, rfl⟩ ?_ fin
    have h1 : xs.length ≤ i := List.drop_eq_nil_iff.mp hz.symm
    have h2 := hr.length
    simp only [Array.length_toList] at h2
    rw [Array.getElem?_eq_none_iff]; omega
  | @lst a xs i he hi =>
    obtain ⟨vs, hl, hr, hn⟩ := (G.rel _ _ (hown a xs he)).isList
    refine wpAny_pyNext_list_end hh hi hl ?_ fin
    have h1 : xs.length ≤ i := List.drop_eq_nil_iff.mp hz.symm
    rw [Array.getElem?_eq_none_iff]; omega
  | @rng x left hi =>
    refine wpAny_pyNext_range_end hh hi ?_ fin
    have : (List.range left.toNat).length = 0 := by
      have := congrArg List.length hz.symm
      simpa using this
    simp at this; omega

theorem for_core {own : Option (Addr × List V)} {x : Str} {px : Pos} {body : List Stmt} {ia : Addr} {s₀ : Shared} {σ₀ : Sto} {xs : List V} (hh : A.handled = none) (I : List V → Loc → Sto → Prop)
    (hown : ∀ ys l σ, I ys l σ → ∀ a xs, own = some (a, xs) → σ a = some (.lst xs)) (hi : ItIs own s.heap ia xs) (hI : I xs l σ) (G : Gd D ((env, l) :: stk) σ s) (T : Wy (env.locals :: fz stk) σ₀ s₀.heap σ s.heap)
    (hu : σ ia = none) (hn : NN (env.locals :: fz stk) σ₀ s₀.heap ia) (hf : ia ∉ env.locals :: fz stk) (hb : D.B.get? ia = none)
    (turn : ∀ y ys l σ, I (y :: ys) l σ → Exs D A stk env body ((x, y) :: l) σ X (Lp K fun l' σ' => I ys l' σ'))
    (done : ∀ l σ, I [] l σ → K .next l σ) (hX : PassesOwn (Mo D) A env X) (hl : env.kindOf x = some .local) (hk : env.scope.kind = .function) :
    codeAny (Mo D) A (.forLoop (.Name x px) (.ref ia) body [] env) (fun r s' => match r with | .ok f => PF D stk env σ₀ s₀ K f s' | .error e => cameBackBy (Mo D) A env X e s') s := by
  refine codeAny_forLoop_any (fun n s' => ∃ ys l' σ', n = ys.length ∧ I ys l' σ' ∧ ItIs own s'.heap ia ys ∧ Gd D ((env, l') :: stk) σ' s' ∧ Wy (env.locals :: fz stk) σ₀ s₀.heap σ' s'.heap ∧ σ' ia = none) (fun n s₁ h₁ => ?_) xs.length ⟨xs, l, σ, rfl, hI, hi, G, T, hu⟩
  obtain ⟨ys, l₁, σ₁, rfl, hI₁, hi₁, g1, t1, u1⟩ := h₁
  cases ys with
  | nil =>
    refine next_end hh g1 (hown _ _ _ hI₁) hi₁ (fun s₂ S k hg ho => ?_)
    have g2 : Gd D ((env, l₁) :: stk) σ₁ s₂ := g1.but u1 hf hb S k hg ho
    exact wpAny_execs_nil ⟨_, _, _, done _ _ hI₁, .next, g2, t1.skip hn S k⟩
  | cons y ys =>
    refine next_item g1 (hown _ _ _ hI₁) hi₁ (fun v s₂ rv hi₂ S k hg ho => ?_)
    have g2 : Gd D ((env, l₁) :: stk) σ₁ s₂ := g1.but u1 hf hb S k hg ho
    have t2 := t1.skip hn S k
    refine wpAny_pure (a := ()) ?_
    refine wpAny_passesOwn hX (wpAny_assign_Name (wpAny_mono (as_local (D := D) (A := A) (X := X) (l := l₁) (σ := σ₁) (R := fun l' σ' => l' = (x, y) :: l₁ ∧ σ' = σ₁) ⟨rfl, rfl⟩ hl hk s₂ v g2 rv) (fun _ s₃ h₃ => ?_) fun _ _ e => e))
    obtain ⟨l₃, σ₃, ⟨rfl, rfl⟩, g3, t3⟩ := h₃
    obtain ⟨oi, hoi, _⟩ := hi₂.notTup
    have k3 := t3.tr ia oi hoi u1 hf
    have hi₃ := hi₂.keep t3.st fun o e => by rw [hoi] at e; cases e; exact k3.1
    refine wpAny_passesOwn hX (wpAny_mono (turn y ys l₁ σ₃ hI₁ s₃ g3) (fun f s₄ h₄ => ?_) fun _ _ e => e)
    obtain ⟨fl, l₄, σ₄, h4, r4, g4, t4⟩ := h₄
    have k4 := t4.tr ia oi k3.1 k3.2 hf
    have hi₄ := hi₃.keep t4.st fun o e => by rw [k3.1] at e; cases e; exact k4.1
    have tt := (t2.trans t3).trans t4
    cases r4 with
    | next => exact ⟨ys.length, by simp, ys, l₄, σ₄, rfl, h4, hi₄, g4, tt, k4.2⟩
    | cont => exact ⟨ys.length, by simp, ys, l₄, σ₄, rfl, h4, hi₄, g4, tt, k4.2⟩
    | brk => exact ⟨_, _, _, h4, .next, g4, tt⟩
    | ret r => exact ⟨_, _, _, h4, .ret r, g4, tt⟩
theorem Gd.not_frame (G : Gd D ((env, l) :: stk) σ s) {a : Addr} (h : s.heap.get? a = none) : a ∉ env.locals :: fz stk := fun hm => by
  rcases List.mem_cons.mp hm with rfl | hm
  · exact G.frame_get h (.head _) rfl
  · obtain ⟨p, hp, e⟩ := List.mem_map.mp hm
    exact G.frame_get h (.tail _ hp) e

theorem ex_for_tup {x : Str} {px p : Pos} {iter : Expr} {body : List Stmt} (hh : A.handled = none) (h : Ev D A ((env, l) :: stk) env iter σ X fun v σ₁ => ∃ xs, v = .tup xs ∧ ∃ I : List V → Loc → Sto → Prop, I xs l σ₁ ∧
      (∀ y ys l σ, I (y :: ys) l σ → Exs D A stk env body ((x, y) :: l) σ X (Lp K fun l' σ' => I ys l' σ')) ∧ (∀ l σ, I [] l σ → K .next l σ))
    (hX : PassesOwn (Mo D) A env X) (hs : ∀ x, foldedSetIterable iter env x = pure x := by intro _; rfl) (hl : env.kindOf x = some .local := by rfl) (hk : env.scope.kind = .function := by rfl) :
    Ex D A stk env (.For (.Name x px) iter body [] p) l σ X K := fun s G => by
  refine wpAny_For (wpAny_mono (h s G) (fun v s₁ h₁ => ?_) fun _ _ e => e) hs
  obtain ⟨_, σ₁, ⟨xs, rfl, I, hI, turn, done⟩, r1, g1, t1⟩ := h₁
  obtain ⟨a, vs, n, rfl, ht, hr, hn⟩ := r1.isTupO
  refine wpAny_pyIter_tuple ⟨_, ht, rfl, n, rfl⟩ ?_
  have hN : s₁.heap.get? s₁.heap.objs.size = none := Heap.get?_none_of_le (Nat.le_refl _)
  have k := keeps_push s₁.heap { cls := .type "tuple_iterator", data := .fields #[.ref a, .int 0 0] }
  refine for_core (own := none) (σ₀ := σ) (s₀ := s) hh I (fun _ _ _ _ _ _ e => by cases e) (xs := xs) ?_ hI (g1.keeps (s' := { s₁ with heap := _ }) k rfl rfl) (t1.trans (.keeps k)) (g1.none_of hN) ?_ (g1.not_frame hN) (g1.base_none hN) turn done hX hl hk
  · have := ItIs.tup (own := none) (h := s₁.heap.push { cls := .type "tuple_iterator", data := .fields #[.ref a, .int 0 0] }) (ia := s₁.heap.objs.size) (i := 0) (k _ _ ht) (hr.st (.keeps k)) ⟨_, Heap.get?_push_size _ rfl, rfl, rfl⟩
    simpa using this
  · exact t1.none_of_new hN
theorem ex_for_list {x : Str} {px p : Pos} {iter : Expr} {body : List Stmt} (hh : A.handled = none) (h : Ev D A ((env, l) :: stk) env iter σ X fun v σ₁ => ∃ a xs, v = .ref a ∧ ∃ I : List V → Loc → Sto → Prop, I xs l σ₁ ∧ (∀ ys l σ, I ys l σ → σ a = some (.lst xs)) ∧
      (∀ y ys l σ, I (y :: ys) l σ → Exs D A stk env body ((x, y) :: l) σ X (Lp K fun l' σ' => I ys l' σ')) ∧ (∀ l σ, I [] l σ → K .next l σ))
    (hX : PassesOwn (Mo D) A env X) (hs : ∀ x, foldedSetIterable iter env x = pure x := by intro _; rfl) (hl : env.kindOf x = some .local := by rfl) (hk : env.scope.kind = .function := by rfl) :
    Ex D A stk env (.For (.Name x px) iter body [] p) l σ X K := fun s G => by
  refine wpAny_For (wpAny_mono (h s G) (fun v s₁ h₁ => ?_) fun _ _ e => e) hs
  obtain ⟨_, σ₁, ⟨a, xs, rfl, I, hI, hown, turn, done⟩, r1, g1, t1⟩ := h₁
  cases r1
  obtain ⟨vs, hl', hr, hn⟩ := (g1.rel _ _ (hown _ _ _ hI)).isList
  refine wpAny_pyIter_list hl' ?_
  have hN : s₁.heap.get? s₁.heap.objs.size = none := Heap.get?_none_of_le (Nat.le_refl _)
  have k := keeps_push s₁.heap { cls := .type "list_iterator", data := .fields #[.ref a, .int 0 0] }
  refine for_core (own := some (a, xs)) (σ₀ := σ) (s₀ := s) hh I (fun ys l σ hi b zs e => by cases e; exact hown _ _ _ hi) (xs := xs) ?_ hI (g1.keeps (s' := { s₁ with heap := _ }) k rfl rfl) (t1.trans (.keeps k)) (g1.none_of hN) ?_ (g1.not_frame hN) (g1.base_none hN) turn done hX hl hk
  · have := ItIs.lst (own := some (a, xs)) (h := s₁.heap.push { cls := .type "list_iterator", data := .fields #[.ref a, .int 0 0] }) (ia := s₁.heap.objs.size) (i := 0) rfl ⟨_, Heap.get?_push_size _ rfl, rfl, rfl⟩
    simpa using this
  · exact t1.none_of_new hN
end
section
variable {D : Wd} {A : Around} {stk : List (Env × Loc)} {env : Env} {l l' : Loc} {σ σ' : Sto} {s s' : Shared} {X : Value → Shared → Prop} {Q : V → Sto → Prop} {K : Fl → Loc → Sto → Prop} {T : Bool → Sto → Prop}

theorem callB_raw {fn : Str} {np p : Pos} {es : List Expr} {f : Value} {R : Value → Shared → Prop} (b : Bs D) (e : nsIn (Kf D.w) mainGlobals fn = some none) (hv : bootBuiltins fn = some f) (hf : ∀ a, f ≠ .ref a) (G : Gd D stk σ s)
    (h : Sp D A stk env p es σ X fun xs σ₁ => ∀ s₁ vs, Gd D stk σ₁ s₁ → RepVs s₁.heap xs vs → Wy (fz stk) σ s.heap σ₁ s₁.heap → wpAny (Mo D) A (call f vs) R X s₁) (hp : es.all (fun e => !isStarred e) = true) (hn : fn ≠ "__name__")
    (hk : env.scope.kind = .function) (hl : env.kindOf fn = some .globalImplicit) (hg : env.globals = mainGlobals) (hb : env.builtins = builtinsNs)
    (hd : (fn == ("__debug__" : Str)) = false) : wpAny (Mo D) A (eval (.Call (.Name fn np) es [] p) env) R X s := by
  obtain ⟨pr, lo, mg, mb, TR⟩ := b.top
  refine wpAny_Call_ofName (Calls.Name_function_global hk hl (Calls.loadGlobal_builtin (hg ▸ TR.g.keeps G.stays) (mg_none_of b.kin TR.g e) (hb ▸ TR.b.keeps G.stays) ((TR.builtins fn hn).trans hv) ?_) hd)
  refine callWith_sp (P := fun _ => True) hp (fun h _ => not_ref_keeps hf h) (wpAny_mono (h s G) (fun vs s₂ h₂ => ?_) fun _ _ e => e)
  obtain ⟨xs, σ₂, h2, r2, g2, t2⟩ := h₂
  exact ⟨trivial, h2 s₂ vs g2 r2 t2⟩

def rgI (a : Int) (n : Nat) : List V := (List.range n).map fun (k : Nat) => .int (a + k)
/-- for x in range(..) -/
theorem ex_for_range {x : Str} {px p np p' : Pos} {es : List Expr} {body : List Stmt} (b : Bs D) (hh : A.handled = none)
    (h : Sp D A ((env, l) :: stk) env p' es σ X fun xs σ₁ => ∃ a c, (xs = [.int a, .int c] ∨ (xs = [.int c] ∧ a = 0)) ∧ -(2 ^ 62) ≤ a ∧ a < 2 ^ 62 ∧ -(2 ^ 62) ≤ c ∧ c < 2 ^ 62 ∧ ∃ I : List V → Loc → Sto → Prop, I (rgI a (c - a).toNat) l σ₁ ∧
      (∀ y ys l σ, I (y :: ys) l σ → Exs D A stk env body ((x, y) :: l) σ X (Lp K fun l' σ' => I ys l' σ')) ∧ (∀ l σ, I [] l σ → K .next l σ))
    (hX : PassesOwn (Mo D) A env X) (e : nsIn (Kf D.w) mainGlobals (Str.ofString "range") = some none) (hp : es.all (fun e => !isStarred e) = true := by rfl)
    (hl : env.kindOf x = some .local := by rfl) (hk : env.scope.kind = .function := by rfl)
    (hlr : env.kindOf (Str.ofString "range") = some .globalImplicit := by rfl) (hg : env.globals = mainGlobals := by rfl) (hb : env.builtins = builtinsNs := by rfl)
    (hs : ∀ v, foldedSetIterable (.Call (.Name (Str.ofString "range") np) es [] p') env v = pure v := by intro _; rfl) :
    Ex D A stk env (.For (.Name x px) (.Call (.Name (Str.ofString "range") np) es [] p') body [] p) l σ X K := fun s G => by
  refine wpAny_For (callB_raw (f := .type "range") b e (by rfl) (by intro a h; cases h) G (fun s₀ G₀ => wpAny_mono (h s₀ G₀) (fun vs s₁ h₁ => ?_) fun _ _ e => e) hp (by decide) hk hlr hg hb (by decide)) hs
  obtain ⟨xs, σ₁, ⟨a, c, hxs, ha, ha', hc, hc', I, hI, turn, done⟩, r1, g1, t1⟩ := h₁
  refine ⟨xs, σ₁, ?_, r1, g1, t1⟩
  intro s₂ vs₂ g2 r2 t2
  have fin : ∀ (st : Obj) (hst : ∃ t u v, st = { cls := .type "range", data := .fields #[.int a t, .int c u, .int 1 v] }) (tk : Tok), wpAny (Mo D) A (pyIter (.ref s₂.heap.objs.size))
      (fun it s₃ => codeAny (Mo D) A (.forLoop (.Name x px) it body [] env) (fun r s' => match r with | .ok f => PF D stk env σ s K f s' | .error e => cameBackBy (Mo D) A env X e s') s₃) X { s₂ with heap := s₂.heap.push st, toks := tk } := by
    rintro st ⟨t, u, v, rfl⟩ tk
    have k := keeps_push s₂.heap { cls := .type "range", data := .fields #[.int a t, .int c u, .int 1 v] }
    refine wpAny_pyIter_range (IsRange.new ..) (small_one ha ha' hc hc') ?_
    have k2 := keeps_push (s₂.heap.push { cls := .type "range", data := .fields #[.int a t, .int c u, .int 1 v] }) { cls := .type "range_iterator", data := .fields #[rawInt a, rawInt (Builtin.Range.rangeSize a c 1), rawInt 1] }
    have kk : ∀ b o, s₂.heap.get? b = some o → ((s₂.heap.push { cls := .type "range", data := .fields #[.int a t, .int c u, .int 1 v] }).push { cls := .type "range_iterator", data := .fields #[rawInt a, rawInt (Builtin.Range.rangeSize a c 1), rawInt 1] }).get? b = some o := fun b o e => k2 _ _ (k _ _ e)
    have hN : s₂.heap.get? (s₂.heap.push { cls := .type "range", data := .fields #[.int a t, .int c u, .int 1 v] }).objs.size = none := Heap.get?_none_of_le (by rw [Heap.size_push]; exact Nat.le_succ _)
    refine for_core (own := none) (σ₀ := σ) (s₀ := s) hh I (fun _ _ _ _ _ _ e => by cases e) (xs := rgI a (c - a).toNat) ?_ hI (g2.keeps (s' := { s₂ with heap := _, toks := tk }) kk rfl rfl) (t2.trans (.keeps kk)) (g2.none_of hN) (t2.none_of_new hN) (g2.not_frame hN) (g2.base_none hN) turn done hX hl hk
    have := ItIs.rng (own := none) (h := (s₂.heap.push { cls := .type "range", data := .fields #[.int a t, .int c u, .int 1 v] }).push { cls := .type "range_iterator", data := .fields #[rawInt a, rawInt (Builtin.Range.rangeSize a c 1), rawInt 1] }) (ia := (s₂.heap.push { cls := .type "range", data := .fields #[.int a t, .int c u, .int 1 v] }).objs.size) (x := a) (left := Builtin.Range.rangeSize a c 1) (Heap.get?_push_size _ rfl)
    have e : (Builtin.Range.rangeSize a c 1).toNat = (c - a).toNat := by rw [rangeSize_one]; split <;> omega
    rw [e] at this
    exact this
  rcases hxs with rfl | ⟨rfl, rfl⟩
  · cases r2 with | cons ra rb => cases rb with | cons rb rc => cases rc; cases ra; cases rb; exact call_range_2 (fin _ ⟨_, _, _, rfl⟩ _)
  · cases r2 with | cons ra rb => cases rb; cases ra; exact call_range_1 (fin _ ⟨_, _, _, rfl⟩ _)

/-- len -/
theorem cl_len_tup {xs : List V} (hz : xs.length ≤ sizeLine) (h : Q (.int xs.length) σ) : Cl D A stk (.builtin "len") [.tup xs] σ X Q := fun s vs G R => by
  cases R with | cons r rs => cases rs; obtain ⟨a, vs, rfl, ht, hr, hn⟩ := r.isTup
                              refine len_tuple ht (by rw [hn]; have := sizeLine_eq; omega) (pv (σ' := σ) (x := .int xs.length) h ?_ (G.tk _) (.refl _))
                              rw [hn]; exact .int _ _
theorem cl_len_list {a : Addr} {xs : List V} (ha : σ a = some (.lst xs)) (hz : xs.length ≤ sizeLine) (h : Q (.int xs.length) σ) : Cl D A stk (.builtin "len") [.ref a] σ X Q := fun s vs G R => by
  cases R with | cons r rs => cases rs; cases r; obtain ⟨vs, hl, hr, hn⟩ := (G.rel _ _ ha).isList
                              refine call_len_list hl (by rw [hn]; have := sizeLine_eq; omega) (pv (σ' := σ) (x := .int xs.length) h ?_ (G.tk _) (.refl _))
                              rw [hn]; exact .int _ _
theorem cl_abs {a : Int} (h : Q (.int (if a < 0 then -a else a)) σ) : Cl D A stk (.builtin "abs") [.int a] σ X Q := fun s vs G R => by
  cases R with | cons r rs => cases rs; cases r; exact call_abs_int (fun u tk => pv h (.int _ _) (G.tk tk) (.refl _))
/-- list(xs) -/
theorem cl_list_list {a : Addr} {xs : List V} (ha : σ a = some (.lst xs)) (hz : xs.length ≤ sizeLine) (h : ∀ b, σ b = none → Q (.ref b) (upd σ b (.lst xs))) : Cl D A stk (.type "list") [.ref a] σ X Q := fun s vs G R => by
  cases R with | cons r rs => cases rs; cases r; obtain ⟨vs, n, ho, hr⟩ := G.rel _ _ ha
                              refine call_list_seq (T := "list") a (.inl rfl) ho rfl rfl (fun h' c' k e => ?_) (by have := hr.length; simp only [Array.length_toList] at this; omega)
                              obtain ⟨g, t, nn⟩ := G.new (s' := { s with heap := h' }) (a := s.heap.objs.size) (o' := .lst xs) (Heap.get?_none_of_le (Nat.le_refl _)) k (repO_new e (hr.st (.keeps k))) rfl rfl
                              exact pv (h _ nn) (.ref _) g t
end
/-- the library's frames and ledgers, over an empty ground -/
def nul : Heap := {}
def full (h : Heap) (L : Addr) : List (Addr × Obj) := (List.range h.objs.size).filterMap fun b => if b = L then none else (h.get? b).map (b, ·)
theorem full_mem {h : Heap} {L b : Addr} {o : Obj} (hne : b ≠ L) (e : h.get? b = some o) : (b, o) ∈ full h L := by
  unfold full
  refine List.mem_filterMap.mpr ⟨b, List.mem_range.mpr (Heap.lt_size e), ?_⟩
  rw [if_neg hne, e]; rfl
theorem full_of {h : Heap} {L : Addr} {p : Addr × Obj} (m : p ∈ full h L) : p.1 ≠ L ∧ h.get? p.1 = some p.2 := by
  obtain ⟨b, _, hb⟩ := List.mem_filterMap.mp m
  split at hb
  · cases hb
  · rename_i hne
    cases e : h.get? b with
    | none => rw [e] at hb; cases hb
    | some o => rw [e] at hb; cases hb; exact ⟨hne, e⟩
section
variable {D : Wd} {A : Around} {stk : List (Env × Loc)} {env : Env} {l l' : Loc} {σ σ' : Sto} {s s' : Shared} {X : Value → Shared → Prop} {Q : V → Sto → Prop} {K : Fl → Loc → Sto → Prop} {T : Bool → Sto → Prop}
theorem nul_none (a : Addr) : nul.get? a = none := by simp [nul, Heap.get?]
theorem Gd.fn (G : Gd D ((env, l) :: stk) σ s) : ∃ m, Fr nul env.locals s.heap m ∧ News nul env.locals s.heap (full s.heap env.locals) ∧ RepM s.heap m l := by
  obtain ⟨_, ⟨m, hm, hr⟩, _⟩ := G.frs _ (.head _)
  exact ⟨m, ⟨hm, fun b o e => by (rw [nul_none] at e; cases e), Nat.zero_le _⟩, fun p hp => ⟨(full_of hp).2, (full_of hp).1, nul_none _⟩, hr⟩
/-- all but the frame's own object is kept, and its names are -/
theorem Gd.fr (G : Gd D ((env, l) :: stk) σ s) {m : Str → Option Value} (hr : RepM s.heap m l) {news : List (Addr × Obj)} (F : Fr nul env.locals s'.heap m) (N : News nul env.locals s'.heap news) (hn : ∀ p ∈ full s.heap env.locals, p ∈ news)
    (hg : s'.gens = s.gens) (ho : s'.os = s.os) : Gd D ((env, l) :: stk) σ s' ∧ Wy (fz ((env, l) :: stk)) σ s.heap σ s'.heap := by
  obtain ⟨h1, hR, h3⟩ := G.frs _ (.head _)
  obtain ⟨ob, e1, e3, _⟩ := hR.shape
  have k : ∀ b o, b ≠ env.locals → s.heap.get? b = some o → s'.heap.get? b = some o := fun b o q e => (N _ (hn _ (full_mem q e))).1
  have S : St s.heap s'.heap := .but e1 e3 k
  refine ⟨⟨fun b o e => k b o (fun q => by rw [q, h1] at e; cases e) (G.stays b o e), fun a o e => (G.rel a o e).but S k (fun q => by rw [q, h3] at e; cases e), G.fresh, fun p hp => ?_, G.nd, hg.trans G.gens, ho.trans G.os⟩, S, fun b o e n f => ⟨k b o (fun q => f (by rw [q]; exact .head _)) e, n⟩⟩
  · rcases List.mem_cons.mp hp with rfl | hp
    · exact ⟨h1, ⟨m, F.ns, hr.st S⟩, h3⟩
    · obtain ⟨a, b, c⟩ := G.frs p (.tail _ hp)
      refine ⟨a, b.but S k fun q => ?_, c⟩
      have := G.nd
      simp only [List.map_cons, List.nodup_cons] at this
      exact this.1 (q ▸ List.mem_map_of_mem (f := fun p : Env × Loc => p.1.locals) hp)
/-- a new object becomes a tracked one -/
theorem Gd.track (G : Gd D stk σ s) {a : Addr} {o' : O} (hb : D.B.get? a = none) (hu : σ a = none) (hf : a ∉ fz stk) (r : RepO s.heap a o') : Gd D stk (upd σ a o') s :=
  G.set (s' := s) hb (fun p hp q => hf (q ▸ List.mem_map_of_mem (f := fun p : Env × Loc => p.1.locals) hp)) (.refl _) (fun b o _ e => e) r rfl rfl
theorem Wy.track {fs : List Addr} {h h' : Heap} (x : Wy fs σ h σ' h') {a : Addr} {o' : O} (hn : h.get? a = none) : Wy fs σ h (upd σ' a o') h' :=
  ⟨x.st, fun b o e n f => let ⟨e1, n1⟩ := x.tr b o e n f; ⟨e1, by rw [upd_ne _ _ (fun q => by rw [q, hn] at e; cases e)]; exact n1⟩⟩
theorem size_none (h : Heap) : h.get? h.objs.size = none := Heap.get?_none_of_le (Nat.le_refl _)
theorem Gd.not_fz (G : Gd D stk σ s) {a : Addr} (h : s.heap.get? a = none) : a ∉ fz stk := fun hm => by
  obtain ⟨p, hp, e⟩ := List.mem_map.mp hm
  exact G.frame_get h hp e

theorem op_cat {a c : Addr} {xs ys : List V} (ha : σ a = some (.lst xs)) (hc : σ c = some (.lst ys)) (hz : xs.length + ys.length ≤ sizeLine) (h : ∀ b, σ b = none → Q (.ref b) (upd σ b (.lst (xs ++ ys)))) :
    Op2 D ((env, l) :: stk) (binaryOp .Add) A (.ref a) (.ref c) σ X Q := fun s v u G r1 r2 => by
  cases r1; cases r2
  obtain ⟨vs, hl, hr, hn⟩ := (G.rel _ _ ha).isList
  obtain ⟨ws, hl', hr', hn'⟩ := (G.rel _ _ hc).isList
  obtain ⟨m, F, N, hm⟩ := G.fn
  refine add_arrays F N hl hl' (fun h' F' N' => ?_) (by omega)
  obtain ⟨g, t⟩ := G.fr (s' := { s with heap := h' }) hm F' N' (fun p hp => .tail _ hp) rfl rfl
  have e := (N' _ (.head _)).1
  exact pv (h _ (G.none_of (size_none _))) (.ref _) (g.track (G.base_none (size_none _)) (G.none_of (size_none _)) (G.not_fz (size_none _)) (repO_new e (by simpa using (hr.append hr').st t.st))) (t.track (size_none _))
theorem RepVs.rep {h : Heap} {xs : List V} {vs : List Value} (r : RepVs h xs vs) (n : Nat) : RepVs h (List.replicate n xs).flatten (List.replicate n vs).flatten := by
  induction n with
  | zero => exact .nil
  | succ n ih => simp only [List.replicate_succ, List.flatten_cons]; exact r.append ih
theorem foldl_cat (items : Array Value) (n : Nat) (acc : Array Value) : (List.foldl (fun x1 x2 => x1 ++ x2) acc (List.replicate n items)).toList = acc.toList ++ (List.replicate n items.toList).flatten := by
  induction n generalizing acc with
  | zero => simp
  | succ n ih => simp only [List.replicate_succ, List.foldl_cons, List.flatten_cons]; rw [ih]; simp
theorem op_rep {a : Addr} {xs : List V} {k : Int} (ha : σ a = some (.lst xs)) (hne : xs ≠ []) (h0 : 0 ≤ k) (hk : k < 2 ^ 63) (hz : xs.length * k.toNat ≤ 2 ^ 24) (h : ∀ b, σ b = none → Q (.ref b) (upd σ b (.lst (List.replicate k.toNat xs).flatten))) :
    Op2 D ((env, l) :: stk) (binaryOp .Mult) A (.ref a) (.int k) σ X Q := fun s v u G r1 r2 => by
  cases r1; cases r2
  obtain ⟨vs, n, ho, hr⟩ := G.rel _ _ ha
  have hn : vs.size = xs.length := by simpa using hr.length
  obtain ⟨m, F, N, hm⟩ := G.fn
  refine mul_list F N ho (by omega) hk (by rw [hn]; exact hz) (fun h' F' N' => ?_)
  obtain ⟨g, t⟩ := G.fr (s' := { s with heap := h' }) hm F' N' (fun p hp => .tail _ hp) rfl rfl
  have e := (N' _ (.head _)).1
  have hemp : vs.isEmpty = false := by
    rw [Bool.eq_false_iff]; intro q
    have : vs.size = 0 := by simpa using q
    exact hne (List.length_eq_zero_iff.mp (by omega))
  rw [hemp] at e
  exact pv (h _ (G.none_of (size_none _))) (.ref _) (g.track (G.base_none (size_none _)) (G.none_of (size_none _)) (G.not_fz (size_none _)) (repO_new e (by
    rw [foldl_cat]; simpa using (hr.rep k.toNat).st t.st))) (t.track (size_none _))
theorem op_tcat {xs ys : List V} (hz : xs.length + ys.length ≤ sizeLine) (h : Q (.tup (xs ++ ys)) σ) : Op2 D ((env, l) :: stk) (binaryOp .Add) A (.tup xs) (.tup ys) σ X Q := fun s v u G r1 r2 => by
  obtain ⟨a, vs, n, rfl, ho, hr, hn⟩ := r1.isTupO
  obtain ⟨c, ws, n', rfl, ho', hr', hn'⟩ := r2.isTupO
  obtain ⟨m, F, N, hm⟩ := G.fn
  refine add_tuples (vs := vs.toList) (ws := ws.toList) F N ⟨_, ho, rfl, n, by simp⟩ ⟨_, ho', rfl, n', by simp⟩ (fun e => ?_) (fun _ e => ?_) (fun _ _ h' F' N' => ?_) (by simp; omega)
  · have : xs = [] := List.length_eq_zero_iff.mp (by rw [← hr.length, e]; rfl)
    subst this
    exact pv h (.tup ho' (by simpa using hr')) G (.refl _)
  · have : ys = [] := List.length_eq_zero_iff.mp (by rw [← hr'.length, e]; rfl)
    subst this
    exact pv h (.tup ho (by simpa using hr)) G (.refl _)
  · obtain ⟨g, t⟩ := G.fr (s' := { s with heap := h' }) hm F' N' (fun p hp => .tail _ hp) rfl rfl
    exact pv h (.tup (N' _ (.head _)).1 (by simpa using (hr.append hr').st t.st)) g t
theorem cl_max {a b : Int} (hh : A.handled = none) (h : Q (.int (if b > a then b else a)) σ) : Cl D A ((env, l) :: stk) (.builtin "max") [.int a, .int b] σ X Q := fun s vs G R => by
  cases R with | cons r1 R => cases R with | cons r2 R => cases R; cases r1; cases r2
                                                          obtain ⟨m, F, N, hm⟩ := G.fn
                                                          refine max_two_N hh F N (fun h' tk F' N' => ?_)
                                                          obtain ⟨g, t⟩ := G.fr (s' := { s with heap := h', toks := tk }) hm F' N' (fun p hp => hp) rfl rfl
                                                          exact pv h (.int _ _) g t
theorem cl_min {a b : Int} (hh : A.handled = none) (h : Q (.int (if b < a then b else a)) σ) : Cl D A ((env, l) :: stk) (.builtin "min") [.int a, .int b] σ X Q := fun s vs G R => by
  cases R with | cons r1 R => cases R with | cons r2 R => cases R; cases r1; cases r2
                                                          obtain ⟨m, F, N, hm⟩ := G.fn
                                                          refine min_two_N hh F N (fun h' tk F' N' => ?_)
                                                          obtain ⟨g, t⟩ := G.fr (s' := { s with heap := h', toks := tk }) hm F' N' (fun p hp => hp) rfl rfl
                                                          exact pv h (.int _ _) g t
theorem cl_int_bool {b : Bool} (h : Q (.int (if b = true then 1 else 0)) σ) : Cl D A stk (.type "int") [.bool b] σ X Q := fun s vs G R => by
  cases R with | cons r1 R => cases R; cases r1; exact call_int_bool (pv h (.int _ _) (G.tk _) (.refl _))
theorem cl_tuple_tup {xs : List V} (h : Q (.tup xs) σ) : Cl D A stk (.type "tuple") [.tup xs] σ X Q := fun s vs G R => by
  cases R with | cons r1 R => cases R; obtain ⟨a, vs, n, rfl, ho, hr, hn⟩ := r1.isTupO
                              exact call_tuple_same ⟨_, ho, rfl, n, rfl⟩ (pv h (.tup ho hr) G (.refl _))
theorem cl_tuple_list {a : Addr} {xs : List V} (ha : σ a = some (.lst xs)) (hz : xs.length ≤ sizeLine) (h : Q (.tup xs) σ) : Cl D A stk (.type "tuple") [.ref a] σ X Q := fun s vs G R => by
  cases R with | cons r1 R => cases R; cases r1; obtain ⟨vs, hl, hr, hn⟩ := (G.rel _ _ ha).isList
                              refine call_tuple_list hl (fun h' k => ?_) (by omega)
                              have k2 : ∀ b o, s.heap.get? b = some o → (h'.push { cls := .type "tuple", data := .seq vs }).get? b = some o := fun b o e => keeps_push _ _ _ _ (k b o e)
                              exact pv h (.tup (Heap.get?_push_size _ rfl) (hr.st (.keeps k2))) (G.keeps (s' := { s with heap := _ }) k2 rfl rfl) (.keeps k2)
end
mutual
def toPy : V → PyData
  | .int i => .int i
  | .tup xs => .tuple (toPys xs)
  | .none => .none
  | .bool _ => .none
  | .str _ => .none
  | .ref _ => .none
  | .con _ => .none
def toPys : List V → List PyData
  | [] => []
  | x :: xs => toPy x :: toPys xs
end
/-- ints and tuples, so deep -/
inductive Lev : Nat → V → Prop where
  | int (n : Nat) (i : Int) : Lev n (.int i)
  | tup {n : Nat} {xs : List V} : (∀ x ∈ xs, Lev n x) → Lev (n + 1) (.tup xs)
theorem lev_reads {h : Heap} : ∀ (n : Nat) (x : V) (v : Value), Lev n x → RepV h x v → ∃ as, Reads h v (toPy x) as := by
  have all : ∀ n, (∀ x v, Lev n x → RepV h x v → ∃ as, Reads h v (toPy x) as) → ∀ xs vs, (∀ x ∈ xs, Lev n x) → RepVs h xs vs → ∃ as, ReadsAll h vs (toPys xs) as := by
    intro n ih xs
    induction xs with
    | nil => intro vs _ r; cases r; exact ⟨_, .nil⟩
    | cons x xs hi =>
      intro vs hl r
      cases r with
      | cons a b =>
        obtain ⟨as, h1⟩ := ih _ _ (hl _ (.head _)) a
        obtain ⟨bs, h2⟩ := hi _ (fun y hy => hl y (.tail _ hy)) b
        exact ⟨_, .cons h1 h2⟩
  intro n
  induction n with
  | zero => intro x v hl r; cases hl; cases r; exact ⟨_, .int _ _⟩
  | succ n ih =>
    intro x v hl r
    cases hl with
    | int i => cases r; exact ⟨_, .int _ _⟩
    | tup hx => cases r with
      | tup ho hr => obtain ⟨as, h1⟩ := all n ih _ _ hx hr; exact ⟨_, .tuple ho rfl rfl h1⟩
theorem lev_readsAll {h : Heap} {n : Nat} : ∀ {xs : List V} {vs : List Value}, (∀ x ∈ xs, Lev n x) → RepVs h xs vs → ∃ as, ReadsAll h vs (toPys xs) as := by
  intro xs
  induction xs with
  | nil => intro vs _ r; cases r; exact ⟨_, .nil⟩
  | cons x xs hi =>
    intro vs hl r
    cases r with
    | cons a b =>
      obtain ⟨as, h1⟩ := lev_reads _ _ _ (hl _ (.head _)) a
      obtain ⟨bs, h2⟩ := hi (fun y hy => hl y (.tail _ hy)) b
      exact ⟨_, .cons h1 h2⟩
theorem lev_lay : ∀ (n : Nat) (x : V), Lev n x → (toPy x).canLay0 = true ∧ (toPy x).depth ≤ n := by
  have all : ∀ n, (∀ x, Lev n x → (toPy x).canLay0 = true ∧ (toPy x).depth ≤ n) → ∀ xs, (∀ x ∈ xs, Lev n x) → PyData.canLayAll0 (toPys xs) = true ∧ PyData.depthAll (toPys xs) ≤ n := by
    intro n ih xs
    induction xs with
    | nil => intro _; exact ⟨rfl, Nat.zero_le _⟩
    | cons x xs hi =>
      intro hl
      have h1 := ih x (hl x (.head _))
      have h2 := hi fun y hy => hl y (.tail _ hy)
      exact ⟨by simp [toPys, PyData.canLayAll0, h1.1, h2.1], by simp only [toPys, PyData.depthAll]; exact Nat.max_le.mpr ⟨h1.2, h2.2⟩⟩
  intro n
  induction n with
  | zero => intro x hl; cases hl; exact ⟨rfl, Nat.le_refl _⟩
  | succ n ih =>
    intro x hl
    cases hl with
    | int i => exact ⟨rfl, Nat.zero_le _⟩
    | tup hx => have := all n ih _ hx; exact ⟨this.1, Nat.succ_le_succ this.2⟩
theorem lev_layAll {n : Nat} {xs : List V} (h : ∀ x ∈ xs, Lev n x) : PyData.canLayAll0 (toPys xs) = true ∧ PyData.depthAll (toPys xs) ≤ n := by
  have := lev_lay (n + 1) (.tup xs) (.tup h)
  exact ⟨this.1, Nat.le_of_succ_le_succ this.2⟩
theorem lev_eqv : ∀ (n m : Nat) (x y : V), Lev n x → Lev m y → (PyData.eqv (toPy x) (toPy y) = true ↔ x = y) := by
  have all : ∀ n, (∀ m x y, Lev n x → Lev m y → (PyData.eqv (toPy x) (toPy y) = true ↔ x = y)) → ∀ m xs ys, (∀ x ∈ xs, Lev n x) → (∀ y ∈ ys, Lev m y) → (PyData.eqvAll (toPys xs) (toPys ys) = true ↔ xs = ys) := by
    intro n ih m xs
    induction xs with
    | nil => intro ys _ _; cases ys <;> simp [toPys, PyData.eqvAll]
    | cons x xs hi =>
      intro ys h1 h2
      cases ys with
      | nil => simp [toPys, PyData.eqvAll]
      | cons y ys =>
        have q1 := ih m x y (h1 x (.head _)) (h2 y (.head _))
        have q2 := hi ys (fun z hz => h1 z (.tail _ hz)) fun z hz => h2 z (.tail _ hz)
        simp only [toPys, PyData.eqvAll, Bool.and_eq_true, q1, q2, List.cons.injEq]
  intro n
  induction n with
  | zero =>
    intro m x y hx hy
    cases hx
    cases hy <;> simp [toPy, PyData.eqv]
  | succ n ih =>
    intro m x y hx hy
    cases hx with
    | int i => cases hy <;> simp [toPy, PyData.eqv]
    | tup hx =>
      cases hy with
      | int i => simp [toPy, PyData.eqv]
      | tup hy =>
        simp only [toPy, PyData.eqv, V.tup.injEq]
        exact all n ih _ _ _ hx hy
theorem lev_eqvAll {n m : Nat} {xs ys : List V} (h1 : ∀ x ∈ xs, Lev n x) (h2 : ∀ y ∈ ys, Lev m y) : PyData.eqvAll (toPys xs) (toPys ys) = true ↔ xs = ys := by
  have := lev_eqv (n + 1) (m + 1) (.tup xs) (.tup ys) (.tup h1) (.tup h2)
  simpa [toPy, PyData.eqv] using this
section
variable {D : Wd} {A : Around} {stk : List (Env × Loc)} {env : Env} {l l' : Loc} {σ σ' : Sto} {s s' : Shared} {X : Value → Shared → Prop} {Q : V → Sto → Prop} {K : Fl → Loc → Sto → Prop} {T : Bool → Sto → Prop}
theorem cm_eq {n m : Nat} {x y : V} (hu : A.units + 100 < cLine) (hx : Lev n x) (hy : Lev m y) (hn : n ≤ 100) (h : ∀ b, (b = true ↔ x = y) → T b σ) : Cm D A stk .Eq x y σ X T := fun s v u G r1 r2 => by
  obtain ⟨as, R1⟩ := lev_reads _ _ _ hx r1
  obtain ⟨bs, R2⟩ := lev_reads _ _ _ hy r2
  have l1 := lev_lay _ _ hx
  have l2 := lev_lay _ _ hy
  exact SeqAt.compareEq_reads R1 R2 l1.1 l2.1 (by have := l1.2; omega) ⟨_, rfl, σ, h _ (lev_eqv _ _ _ _ hx hy), G, .refl _⟩
theorem cm_ne {n m : Nat} {x y : V} (hu : A.units + 100 < cLine) (hx : Lev n x) (hy : Lev m y) (hn : n ≤ 100) (h : ∀ b, (b = true ↔ x ≠ y) → T b σ) : Cm D A stk .NotEq x y σ X T := fun s v u G r1 r2 => by
  obtain ⟨as, R1⟩ := lev_reads _ _ _ hx r1
  obtain ⟨bs, R2⟩ := lev_reads _ _ _ hy r2
  have l1 := lev_lay _ _ hx
  have l2 := lev_lay _ _ hy
  refine SeqAt.compareNe_reads R1 R2 l1.1 l2.1 (by have := l1.2; omega) ⟨_, rfl, σ, h _ ?_, G, .refl _⟩
  rw [Bool.not_eq_true', ← Bool.not_eq_true, lev_eqv _ _ _ _ hx hy]
theorem cm_eq_list {n m : Nat} {a c : Addr} {xs ys : List V} (hu : A.units + 100 < cLine) (ha : σ a = some (.lst xs)) (hc : σ c = some (.lst ys)) (hx : ∀ x ∈ xs, Lev n x) (hy : ∀ y ∈ ys, Lev m y) (hn : n ≤ 98) (h : ∀ b, (b = true ↔ xs = ys) → T b σ) :
    Cm D A stk .Eq (.ref a) (.ref c) σ X T := fun s v u G r1 r2 => by
  cases r1; cases r2
  obtain ⟨vs, k, ho, hr⟩ := G.rel _ _ ha
  obtain ⟨ws, k', ho', hr'⟩ := G.rel _ _ hc
  obtain ⟨as, R1⟩ := lev_readsAll hx hr
  obtain ⟨bs, R2⟩ := lev_readsAll hy hr'
  have l1 := lev_layAll hx
  have l2 := lev_layAll hy
  refine SeqAt.compareEq_reads (.list ho rfl rfl R1) (.list ho' rfl rfl R2) l1.1 l2.1 ?_ ⟨_, rfl, σ, h _ ?_, G, .refl _⟩
  · show A.units + min (PyData.depthAll (toPys xs) + 1) (PyData.depthAll (toPys ys) + 1) < cLine
    have := l1.2; omega
  · simpa [PyData.eqv] using lev_eqvAll hx hy
theorem cm_ne_list {n m : Nat} {a c : Addr} {xs ys : List V} (hu : A.units + 100 < cLine) (ha : σ a = some (.lst xs)) (hc : σ c = some (.lst ys)) (hx : ∀ x ∈ xs, Lev n x) (hy : ∀ y ∈ ys, Lev m y) (hn : n ≤ 98) (h : ∀ b, (b = true ↔ xs ≠ ys) → T b σ) :
    Cm D A stk .NotEq (.ref a) (.ref c) σ X T := fun s v u G r1 r2 => by
  cases r1; cases r2
  obtain ⟨vs, k, ho, hr⟩ := G.rel _ _ ha
  obtain ⟨ws, k', ho', hr'⟩ := G.rel _ _ hc
  obtain ⟨as, R1⟩ := lev_readsAll hx hr
  obtain ⟨bs, R2⟩ := lev_readsAll hy hr'
  have l1 := lev_layAll hx
  have l2 := lev_layAll hy
  refine SeqAt.compareNe_reads (.list ho rfl rfl R1) (.list ho' rfl rfl R2) l1.1 l2.1 ?_ ⟨_, rfl, σ, h _ ?_, G, .refl _⟩
  · show A.units + min (PyData.depthAll (toPys xs) + 1) (PyData.depthAll (toPys ys) + 1) < cLine
    have := l1.2; omega
  · rw [Bool.not_eq_true', ← Bool.not_eq_true]
    have := lev_eqvAll hx hy
    simp [PyData.eqv, this]
theorem cm_is_none {x : V} (h : ∀ b, (b = true ↔ x = .none) → (∀ v, x ≠ .con v) → T b σ) (hc : ∀ v, x ≠ .con v) : Cm D A stk .Is x .none σ X T := fun s v u G r1 r2 => by
  cases r2
  cases r1 with
  | con v => exact (hc v rfl).elim
  | none => exact wpAny_is_plain rfl ⟨_, rfl, σ, h _ (by simp) hc, G, .refl _⟩
  | bool b => exact wpAny_is_plain rfl ⟨_, rfl, σ, h _ (by simp) hc, G, .refl _⟩
  | int i t => exact wpAny_is_plain rfl ⟨_, rfl, σ, h _ (by simp) hc, G, .refl _⟩
  | str i t => exact wpAny_is_plain rfl ⟨_, rfl, σ, h _ (by simp) hc, G, .refl _⟩
  | tup _ _ => exact wpAny_is_plain rfl ⟨_, rfl, σ, h _ (by simp) hc, G, .refl _⟩
  | ref a => exact wpAny_is_plain rfl ⟨_, rfl, σ, h _ (by simp) hc, G, .refl _⟩
theorem cm_isnot_none {x : V} (h : ∀ b, (b = true ↔ x ≠ .none) → T b σ) (hc : ∀ v, x ≠ .con v) : Cm D A stk .IsNot x .none σ X T := fun s v u G r1 r2 => by
  cases r2
  cases r1 with
  | con v => exact (hc v rfl).elim
  | none => exact wpAny_isNot_plain rfl ⟨_, rfl, σ, h _ (by simp), G, .refl _⟩
  | bool b => exact wpAny_isNot_plain rfl ⟨_, rfl, σ, h _ (by simp), G, .refl _⟩
  | int i t => exact wpAny_isNot_plain rfl ⟨_, rfl, σ, h _ (by simp), G, .refl _⟩
  | str i t => exact wpAny_isNot_plain rfl ⟨_, rfl, σ, h _ (by simp), G, .refl _⟩
  | tup _ _ => exact wpAny_isNot_plain rfl ⟨_, rfl, σ, h _ (by simp), G, .refl _⟩
  | ref a => exact wpAny_isNot_plain rfl ⟨_, rfl, σ, h _ (by simp), G, .refl _⟩
end
theorem mapSeq_lst (f : Array Value → Array Value) (vs : Array Value) (n : Nat) : Obj.mapSeq f (lstO vs n) = lstO (f vs) (if (f vs).size == vs.size then n else n + 1) := rfl
section
variable {D : Wd} {A : Around} {stk : List (Env × Loc)} {env : Env} {l l' : Loc} {σ σ' : Sto} {s s' : Shared} {X : Value → Shared → Prop} {Q : V → Sto → Prop} {K : Fl → Loc → Sto → Prop} {T : Bool → Sto → Prop}
/-- a list's items are turned in place -/
theorem Gd.turn (G : Gd D stk σ s) {a : Addr} {xs ys : List V} {vs : Array Value} {n : Nat} (ha : σ a = some (.lst xs)) (ho : s.heap.get? a = some (lstO vs n)) (f : Array Value → Array Value) (r : ∀ h', St s.heap h' → RepVs h' ys (f vs).toList) :
    Gd D stk (upd σ a (.lst ys)) { s with heap := s.heap.update a (Obj.mapSeq f) } ∧ Wy (fz stk) σ s.heap (upd σ a (.lst ys)) (s.heap.update a (Obj.mapSeq f)) :=
  G.setAt (s' := { s with heap := s.heap.update a (Obj.mapSeq f) }) (o' := .lst ys) ha (fun b o q e => (Heap.get?_update_other _ _ (Ne.symm q)).trans e)
    (fun S => ⟨f vs, _, by
      show (s.heap.update a (Obj.mapSeq f)).get? a = _
      rw [Heap.get?_update_self _ ho (by rw [mapSeq_lst]; rfl), mapSeq_lst], r _ S⟩) rfl rfl
theorem cl_append {a : Addr} {xs : List V} {x : V} (ha : σ a = some (.lst xs)) (hz : xs.length ≤ sizeLine) (h : Q .none (upd σ a (.lst (xs ++ [x])))) : Cl D A stk (.builtin "list.append") [.ref a, x] σ X Q := fun s vs G R => by
  cases R with | cons r1 R => cases R with | cons r2 R => cases R; cases r1
                                                          obtain ⟨ws, n, ho, hr⟩ := G.rel _ _ ha
                                                          have hn : ws.size = xs.length := by simpa using hr.length
                                                          refine wpAny_list_append_plain ⟨n, ho⟩ (fun h' hp hs => ?_) (by omega)
                                                          obtain ⟨n', hp⟩ := hp
                                                          obtain ⟨g, t⟩ := G.setAt (s' := { s with heap := h' }) (o' := .lst (xs ++ [x])) ha (fun b o q e => (hs.2 b q).trans e) (fun S => ⟨_, n', hp, by
                                                            rw [Array.toList_push]; exact (hr.st S).append (.cons (r2.st S) .nil)⟩) rfl rfl
                                                          exact pv h .none g t
theorem long_ok {its its2 : Array Value} (h : its.size + its2.size ≤ sizeLine) : ¬(!its.isEmpty && Builtin.List.listTooLong (its.size + its2.size)) = true := by
  unfold Builtin.List.listTooLong
  simp only [Bool.and_eq_true, decide_eq_true_eq, not_and]
  intro _
  omega
theorem cl_extend {a b : Addr} {xs ys : List V} (ha : σ a = some (.lst xs)) (hb : σ b = some (.lst ys)) (hz : xs.length + ys.length ≤ sizeLine) (h : Q .none (upd σ a (.lst (xs ++ ys)))) : Cl D A stk (.builtin "list.extend") [.ref a, .ref b] σ X Q := fun s vs G R => by
  cases R with | cons r1 R => cases R with | cons r2 R => cases R; cases r1; cases r2
                                                          obtain ⟨ws, n, ho, hr⟩ := G.rel _ _ ha
                                                          obtain ⟨us, k, hob, hrb⟩ := G.rel _ _ hb
                                                          have hn : ws.size = xs.length := by simpa using hr.length
                                                          have hk : us.size = ys.length := by simpa using hrb.length
                                                          obtain ⟨g, t⟩ := G.turn (ys := xs ++ ys) ha ho (fun z => z ++ us) (fun h' S => by simpa using (hr.append hrb).st S)
                                                          exact call_meets PySem.F.slot_list_extend ⟨_, ho, rfl⟩ PySem.F.entry_list_extend (PySem.F.args_list_extend_2 _ _) (PySem.AutoSeq1.list_extend_list_list_0 a ws n b us k (long_ok (by omega)) (by omega) (by omega)) ⟨ho, hob, pv h .none g t⟩
theorem cl_extend_tup {a : Addr} {xs ys : List V} (ha : σ a = some (.lst xs)) (hz : xs.length + ys.length ≤ sizeLine) (h : Q .none (upd σ a (.lst (xs ++ ys)))) : Cl D A stk (.builtin "list.extend") [.ref a, .tup ys] σ X Q := fun s vs G R => by
  cases R with | cons r1 R => cases R with | cons r2 R => cases R; cases r1
                                                          obtain ⟨b, us, k, rfl, hob, hrb, hk⟩ := r2.isTupO
                                                          obtain ⟨ws, n, ho, hr⟩ := G.rel _ _ ha
                                                          have hn : ws.size = xs.length := by simpa using hr.length
                                                          obtain ⟨g, t⟩ := G.turn (ys := xs ++ ys) ha ho (fun z => z ++ us) (fun h' S => by simpa using (hr.append hrb).st S)
                                                          exact call_meets PySem.F.slot_list_extend ⟨_, ho, rfl⟩ PySem.F.entry_list_extend (PySem.F.args_list_extend_2 _ _) (PySem.AutoSeq1.list_extend_list_tuple_0 a ws n b us k (long_ok (by omega)) (by omega) (by omega)) ⟨ho, hob, pv h .none g t⟩
theorem cl_pop {a : Addr} {xs : List V} {x : V} (ha : σ a = some (.lst (xs ++ [x]))) (hz : xs.length < sizeLine) (h : Q x (upd σ a (.lst xs))) : Cl D A stk (.builtin "list.pop") [.ref a] σ X Q := fun s vs G R => by
  cases R with | cons r1 R => cases R; cases r1
                              obtain ⟨ws, n, ho, hr⟩ := G.rel _ _ ha
                              have hn : ws.size = xs.length + 1 := by simpa using hr.length
                              obtain ⟨v, hv, rv⟩ := hr.get (i := xs.length) (x := x) (by simp)
                              have hk : ws.size - 1 = xs.length := by omega
                              have ew : (ws.eraseIdxIfInBounds (ws.size - 1)).toList = ws.toList.take xs.length := by
                                unfold Array.eraseIdxIfInBounds
                                rw [dif_pos (by omega), Array.toList_eraseIdx, hk]
                                have hl : ws.toList.length = xs.length + 1 := by simpa using hn
                                rw [List.eraseIdx_eq_take_drop_succ, List.drop_of_length_le (by omega), List.append_nil]
                              obtain ⟨g, t⟩ := G.turn (ys := xs) ha ho (fun z => z.eraseIdxIfInBounds (ws.size - 1)) (fun h' S => by
                                rw [ew]; have := (hr.take xs.length).st S; simpa using this)
                              exact call_meets PySem.F.slot_list_pop ⟨_, ho, rfl⟩ PySem.F.entry_list_pop (PySem.F.args_list_pop_1 _) (PySem.MeetsSeq.list_pop_last a _ n v (by rw [hk]; simpa using hv) (by omega)) ⟨ho, pv h (rv.st t.st) g t⟩
/-- a list's own method -/
theorem ev_lmeth {oe : Expr} {name : Str} {id : String} {apos p : Pos} {es : List Expr} (slot : Slot "list" name id) (hty : typeOf (.builtin id) = pure (.type "method_descriptor"))
    (h : Ev D A stk env oe σ X fun a σ₁ => ∃ ad xs, a = .ref ad ∧ σ₁ ad = some (.lst xs) ∧ Sp D A stk env p es σ₁ X fun ys σ₂ => Cl D A stk (.builtin id) (.ref ad :: ys) σ₂ X Q)
    (hp : es.all (fun e => !isStarred e) = true := by rfl) (hbase : attributeBase oe name env (eval oe env) = eval oe env := by rfl)
    (hfew : ((backTo p (starEach es env)).all (fun x => !x.1) && (backToKw p (keywordEach [] env)).all (fun x => x.1.isSome)
      && decide (es.length + ([] : List Keyword).length + (if ([] : List Keyword).isEmpty then 0 else 1) < 30)) = true := by rfl) (hline : (apos.endLine == p.line) = true := by rfl) :
    Ev D A stk env (.Call (.Attribute oe name apos) es [] p) σ X Q := fun s G => by
  refine wpAny_Call_method_late hbase hfew hline rfl (wpAny_mono (h s G) (fun v s₁ h₁ => ?_) fun _ _ e => e)
  obtain ⟨_, σ₁, ⟨ad, xs, rfl, ha, h1⟩, r1, g1, t1⟩ := h₁
  cases r1
  obtain ⟨ws, n, ho, hr⟩ := g1.rel _ _ ha
  refine ⟨"list", id, PySem.F.plainAttrs_list, slot, hty, ⟨_, ho, rfl⟩, fun b e => by cases e; exact ⟨_, ho, rfl⟩, ?_⟩
  refine callWith_sp (P := fun _ => True) hp (fun h _ => not_ref_keeps (by intro a h; cases h) h) (wpAny_mono (h1 s₁ g1) (fun vs s₂ h₂ => ?_) fun _ _ e => e)
  obtain ⟨ys, σ₂, h2, r2, g2, t2⟩ := h₂
  exact ⟨trivial, pv_mono (t1.trans t2) (h2 s₂ _ g2 (.cons (.ref _) r2))⟩
/-- count -/
theorem count_loop' {a : Addr} {ws : Array Value} {n : Nat} {xs : List V} {x : V} {v : Value} {hp : Heap} {g : Array GenState} {d : Drawn} {os : OsState} (hu : A.units + 200 < cLine) (ho : hp.get? a = some (lstO ws n)) (hr : RepVs hp xs ws.toList) (hx : ∀ y ∈ xs, Lev 50 y) (hv : Lev 50 x) (rv : RepV hp x v) {Rr : Result → Shared → Prop}
    (e : V → Bool) (he : ∀ y, e y = true ↔ y = x) (tk₀ : Tok) (k : Nat) : ∀ (i : Nat) (found : Int), xs.length - i = k → Rr (.ok (.ret (.int (found + ((xs.drop i).countP e : Nat)) tk₀))) ⟨hp, g, d, tk₀ + 1, os⟩ →
      wpAny (Mo D) A.in1 (Builtin.«list.count.loop» ⟨[.ref a, v, rawInt i, rawInt found], []⟩) (fun fin s' => match fin with | .done f => Rr (.ok f) s' | .again c' => c'.quiet = true ∧ codeAny (Mo D) A c' Rr s') (fun e s' => Rr (.error e) s') ⟨hp, g, d, tk₀, os⟩ := by
  have hn : ws.size = xs.length := by simpa using hr.length
  induction k with
  | zero =>
    intro i found hk h
    have hl := ho
    wp_walk using PySem.AutoSeq1.wpAny_loadPart' hl
    have hi : ws[((i : Nat) : Int).toNat]? = none := by simp; omega
    have hd : xs.drop i = [] := by simp; omega
    rw [hd] at h
    rw [hi]
    wp_walk
    simpa using h
  | succ k ih =>
    intro i found hk h
    have hl := ho
    wp_walk using PySem.AutoSeq1.wpAny_loadPart' hl
    have hlt : i < xs.length := by omega
    have hx' : xs[i]? = some xs[i] := List.getElem?_eq_getElem hlt
    obtain ⟨y, hy, ry⟩ := hr.get hx'
    have hi : ws[((i : Nat) : Int).toNat]? = some y := by simpa using hy
    have hc : ((i : Int) + 1) = ((i + 1 : Nat) : Int) := by push_cast; rfl
    rw [List.drop_eq_getElem_cons hlt, List.countP_cons] at h
    rw [hi]
    have hL := hx _ (List.getElem_mem hlt)
    obtain ⟨as, R1⟩ := lev_reads _ _ _ hL ry
    obtain ⟨bs, R2⟩ := lev_reads _ _ _ hv rv
    have l1 := lev_lay _ _ hL
    have l2 := lev_lay _ _ hv
    have hb : PyData.eqv (toPy xs[i]) (toPy x) = e xs[i] := by
      rw [Bool.eq_iff_iff, lev_eqv _ _ _ _ hL hv, he]
    refine wpAny_bind (SeqAt.eqBoolOverData _ _ _ _ _ _ _ _ _ _ _ _ R1 R2 l1.1 l2.1 (by have := l1.2; show A.units + 1 + _ < cLine; omega) ?_)
    rw [hb]
    wp_walk
    rw [hc]
    refine ⟨plainId_quiet PySem.MeetsSeq.plain_count_loop _, codeAny_builtin PySem.MeetsSeq.entry_count_loop (by
      rw [Around.under_plainId PySem.MeetsSeq.plain_count_loop _]
      refine ih (i + 1) _ (by omega) ?_
      cases hb : e xs[i] with
      | false =>
        simp only [hb, Bool.false_eq_true, if_false, Nat.add_zero] at h ⊢
        exact h
      | true =>
        simp only [hb, if_true] at h ⊢
        have e1 : found + 1 + ((List.countP e (List.drop (i + 1) xs) : Nat) : Int) = found + ((List.countP e (List.drop (i + 1) xs) + 1 : Nat) : Int) := by push_cast; omega
        rw [e1]
        exact h)⟩
theorem cl_count {a : Addr} {xs : List V} {x : V} (hu : A.units + 200 < cLine) (ha : σ a = some (.lst xs)) (hx : ∀ y ∈ xs, Lev 50 y) (hv : Lev 50 x) (e : V → Bool) (he : ∀ y, e y = true ↔ y = x) (h : Q (.int (xs.countP e : Nat)) σ) : Cl D A stk (.builtin "list.count") [.ref a, x] σ X Q := fun s vs G R => by
  cases R with | cons r1 R => cases R with | cons r2 R => cases R; cases r1
                                                          obtain ⟨ws, n, ho, hr⟩ := G.rel _ _ ha
                                                          have key := pv (D := D) (s := s) (Q := Q) h (.int _ s.toks) (G.tk (s.toks + 1)) (.refl _)
                                                          refine wpAny_call (codeAny_call_builtin PySem.F.slot_list_count.plain PySem.F.entry_list_count (PySem.F.slot_list_count.check _ _ _ _ _ _ _ _ ⟨_, ho, rfl⟩ (PySem.F.args_list_count_2 _ _) ?_))
                                                          obtain ⟨hp, g, d, tk, os⟩ := s
                                                          have hl := ho
                                                          wp_walk using PySem.AutoSeq1.wpAny_loadPart' hl
                                                          refine ⟨plainId_quiet PySem.MeetsSeq.plain_count_loop _, codeAny_builtin PySem.MeetsSeq.entry_count_loop (by
                                                            rw [Around.under_plainId PySem.MeetsSeq.plain_count_loop _]
                                                            exact count_loop' (D := D) (A := A) (g := g) (d := d) (os := os) (Rr := wants (PV D stk σ ⟨hp, g, d, tk, os⟩ Q) X) hu ho hr hx hv r2 e he tk _ 0 0 rfl (by
                                                              rw [List.drop_zero, Int.zero_add]
                                                              exact key))⟩
end
section
variable {D : Wd} {A : Around} {stk : List (Env × Loc)} {env : Env} {l l' : Loc} {σ σ' : Sto} {s s' : Shared} {X : Value → Shared → Prop} {Q : V → Sto → Prop} {K : Fl → Loc → Sto → Prop} {T : Bool → Sto → Prop}
theorem cm_in_nil {x : V} (h : T false σ) : Cm D A stk .In x (.tup []) σ X T := fun s v u G r1 r2 => by
  obtain ⟨a, vs, n, rfl, ht, hr, hn⟩ := r2.isTupO
  have hz : vs = #[] := by
    have : vs.size = 0 := by simpa using hn
    exact Array.eq_empty_of_size_eq_zero this
  subst hz
  exact SeqAt.in_tupleAt (fun _ => false) ⟨_, ht, rfl, n, rfl⟩ (fun y hy => by simp at hy) ⟨_, rfl, σ, (by simpa using h), G, .refl _⟩
theorem cl_isi_int_int {i : Int} (h : Q (.bool true) σ) : Cl D A stk (.builtin "isinstance") [.int i, .con (.type "int")] σ X Q := fun s vs G R => by
  cases R with | cons r1 R => cases R with | cons r2 R => cases R; cases r1; cases r2
                                                          exact IsiPair.int_int (pv h (.bool _) G (.refl _))
theorem cl_isi_int_bool {i : Int} (h : Q (.bool false) σ) : Cl D A stk (.builtin "isinstance") [.int i, .con (.type "bool")] σ X Q := fun s vs G R => by
  cases R with | cons r1 R => cases R with | cons r2 R => cases R; cases r1; cases r2
                                                          exact IsiPair.int_bool (pv h (.bool _) (G.tk _) (.refl _))
theorem cl_isi_tup_tup {xs : List V} (h : Q (.bool true) σ) : Cl D A stk (.builtin "isinstance") [.tup xs, .con (.type "tuple")] σ X Q := fun s vs G R => by
  cases R with | cons r1 R => cases R with | cons r2 R => cases R; cases r2
                                                          obtain ⟨a, ws, n, rfl, ht, hr, hn⟩ := r1.isTupO
                                                          exact IsiPair.tuple_tuple ht rfl (pv h (.bool _) G (.refl _))
theorem repVs_ints {h : Heap} {ns : List Int} : ∀ {vs : List Value}, RepVs h (ns.map V.int) vs → IntsAre vs ns := by
  induction ns with
  | nil => intro vs r; cases r; exact .nil
  | cons n ns ih => intro vs r; cases r with | cons a b => cases a; exact .cons _ _ (ih b)
theorem cl_sum {a : Addr} {ns : List Int} (hh : A.handled = none) (ha : σ a = some (.lst (ns.map V.int))) (h : Q (.int ns.sum) σ) : Cl D A stk (.builtin "sum") [.ref a] σ X Q := fun s vs G R => by
  cases R with | cons r1 R => cases R; cases r1
                              obtain ⟨ws, hl, hr, hn⟩ := (G.rel _ _ ha).isList
                              have hi := repVs_ints hr
                              obtain ⟨xs, hx⟩ := hi.allInts.items
                              have hl' : s.heap.IsList a ws.toList.toArray := hl
                              have hnn : numsOf ws.toList.toArray.toList = ns := by rw [show ws.toList.toArray.toList = ws.toList from rfl, hi.numsOf]
                              rw [hx] at hl' hnn
                              rw [nums_intItems] at hnn
                              refine sum_intListG hh hl' fun h' tk t' hk => ?_
                              rw [preSum_eq, List.take_of_length_le (by simp), hnn]
                              exact pv h (.int _ _) (G.keeps hk rfl rfl) (.keeps hk)
theorem G_ext {h' : Heap} (he : Heap.ExtBut s.heap.objs.size s.heap h') : ∀ b o, s.heap.get? b = some o → h'.get? b = some o := fun b o e => he b o (Nat.ne_of_lt (Heap.lt_size e)) e
theorem ex_tup2 {x y : Str} {px py tp p : Pos} {k : Nat} {e : Expr} (hh : A.handled = none) (h : Ev D A ((env, l) :: stk) env e σ X fun v σ₁ => ∃ a b, v = .tup [a, b] ∧ K .next ((y, b) :: (x, a) :: l) σ₁)
    (hl : env.kindOf x = some .local := by rfl) (hl' : env.kindOf y = some .local := by rfl) (hk : env.scope.kind = .function := by rfl)
    (hs : swapsWithSole [.Tuple [.Name x px, .Name y py] k tp] e p.line env = pure false := by rfl) (hw : swappedStores [.Tuple [.Name x px, .Name y py] k tp] e env = pure none := by rfl) :
    Ex D A stk env (.Assign [.Tuple [.Name x px, .Name y py] k tp] e p) l σ X K := fun s G => by
  refine Assign_Tuple (wpAny_mono (h s G) (fun v s₁ h₁ => ?_) fun _ _ e => e) hs hw
  obtain ⟨_, σ₁, ⟨a, b, rfl, h1⟩, r1, g1, t1⟩ := h₁
  obtain ⟨ad, vs, n, rfl, ht, hr, hn⟩ := r1.isTupO
  obtain ⟨⟨va, vb⟩, hv⟩ : ∃ p : Value × Value, vs = #[p.1, p.2] := by
    obtain ⟨vl⟩ := vs
    match vl, hn with
    | [x, y], _ => exact ⟨(x, y), rfl⟩
  simp only at hv
  subst hv
  cases hr with
  | cons ra hr => cases hr with
    | cons rb hr =>
      refine assign_Tuple_tuple hh ⟨_, ht, rfl, n, rfl⟩ rfl rfl (fun h' he => ?_)
      have kk := G_ext he
      have g2 : Gd D ((env, l) :: stk) σ₁ { s₁ with heap := h' } := g1.keeps kk rfl rfl
      have t2 : Wy (fz ((env, l) :: stk)) σ₁ s₁.heap σ₁ h' := .keeps kk
      show wpAny _ _ (assignInOrder [assign (.Name x px) env, assign (.Name y py) env] [va, vb]) _ _ _
      refine wpAny_bind (wpAny_mono (wpAny_holding (wpAny_assign_Name (as_local (D := D) (A := A) (X := X) (l := l) (σ := σ₁) (R := fun l' σ' => l' = (x, a) :: l ∧ σ' = σ₁) ⟨rfl, rfl⟩ hl hk { s₁ with heap := h' } va g2 (ra.st t2.st)))) (fun _ s₃ h₃ => ?_) fun _ _ e => e)
      obtain ⟨l₃, σ₃, ⟨rfl, rfl⟩, g3, t3⟩ := h₃
      refine wpAny_bind (wpAny_mono (wpAny_holding (wpAny_assign_Name (as_local (D := D) (A := A) (X := X) (l := (x, a) :: l) (σ := σ₃) (R := fun l' σ' => l' = (y, b) :: (x, a) :: l ∧ σ' = σ₃) ⟨rfl, rfl⟩ hl' hk s₃ vb g3 ((rb.st t2.st).st t3.st)))) (fun _ s₄ h₄ => ?_) fun _ _ e => e)
      obtain ⟨l₄, σ₄, ⟨rfl, rfl⟩, g4, t4⟩ := h₄
      exact wpAny_pure ⟨_, _, _, h1, .next, g4, ((t1.trans t2).trans t3).trans t4⟩
theorem ex_tup2s {x y : Str} {px py tp p : Pos} {k : Nat} {e : Expr} (hh : A.handled = none) (h : Ev D A ((env, l) :: stk) env e σ X fun v σ₁ => ∃ a b, v = .tup [a, b] ∧ K .next ((x, a) :: (y, b) :: l) σ₁)
    (hl : env.kindOf x = some .local := by rfl) (hl' : env.kindOf y = some .local := by rfl) (hk : env.scope.kind = .function := by rfl)
    (hs : swapsWithSole [.Tuple [.Name x px, .Name y py] k tp] e p.line env = pure false := by rfl) (hw : swappedStores [.Tuple [.Name x px, .Name y py] k tp] e env = pure (some [x, y]) := by rfl) :
    Ex D A stk env (.Assign [.Tuple [.Name x px, .Name y py] k tp] e p) l σ X K := fun s G => by
  refine Assign_Tuple_swapped (names := [x, y]) (wpAny_mono (h s G) (fun v s₁ h₁ => ?_) fun _ _ e => e) hs hw
  obtain ⟨_, σ₁, ⟨a, b, rfl, h1⟩, r1, g1, t1⟩ := h₁
  obtain ⟨ad, vs, n, rfl, ht, hr, hn⟩ := r1.isTupO
  obtain ⟨⟨va, vb⟩, hv⟩ : ∃ p : Value × Value, vs = #[p.1, p.2] := by
    obtain ⟨vl⟩ := vs
    match vl, hn with
    | [x, y], _ => exact ⟨(x, y), rfl⟩
  simp only at hv
  subst hv
  cases hr with
  | cons ra hr => cases hr with
    | cons rb hr =>
      refine unpackItems_tuple (items := #[va, vb]) hh ⟨_, ht, rfl, n, rfl⟩ (fun h' he => ?_)
      have kk := G_ext he
      have g2 : Gd D ((env, l) :: stk) σ₁ { s₁ with heap := h' } := g1.keeps kk rfl rfl
      have t2 : Wy (fz ((env, l) :: stk)) σ₁ s₁.heap σ₁ h' := .keeps kk
      show wpAny _ _ (assignInOrder [bindName env y, bindName env x] [vb, va]) _ _ _
      refine wpAny_bind (wpAny_mono (wpAny_holding (bindName_ (as_local (D := D) (A := A) (X := X) (l := l) (σ := σ₁) (R := fun l' σ' => l' = (y, b) :: l ∧ σ' = σ₁) ⟨rfl, rfl⟩ hl' hk { s₁ with heap := h' } vb g2 (rb.st t2.st)))) (fun _ s₃ h₃ => ?_) fun _ _ e => e)
      obtain ⟨l₃, σ₃, ⟨rfl, rfl⟩, g3, t3⟩ := h₃
      refine wpAny_bind (wpAny_mono (wpAny_holding (bindName_ (as_local (D := D) (A := A) (X := X) (l := (y, b) :: l) (σ := σ₃) (R := fun l' σ' => l' = (x, a) :: (y, b) :: l ∧ σ' = σ₃) ⟨rfl, rfl⟩ hl hk s₃ va g3 ((ra.st t2.st).st t3.st)))) (fun _ s₄ h₄ => ?_) fun _ _ e => e)
      obtain ⟨l₄, σ₄, ⟨rfl, rfl⟩, g4, t4⟩ := h₄
      exact wpAny_pure ⟨_, _, _, h1, .next, g4, ((t1.trans t2).trans t3).trans t4⟩
end
theorem ns_some_of {K : Frag} {h : Heap} {N : Addr} {mg : Str → Option Value} {n : Str} {v : Value} (X : K.In h) (G : h.Ns N mg) (e : nsIn K N n = some (some v)) : mg n = some v := by
  obtain ⟨o, es, ep, ho, hd, _, hf⟩ := G
  unfold nsIn at e
  split at e
  · rename_i c d es' n' sl q
    have := X _ _ q
    rw [ho] at this
    cases this
    cases hd
    split at e
    · rename_i en he
      cases e
      rw [← hf]
      unfold nsFind findBy
      rw [← Array.find?_toList, he]
      rfl
    · split at e <;> cases e
  · cases e
/-- a plain class of the text -/
structure Cs (w : World) (C N : Addr) : Prop where
  obj : ∃ nm q bs sn sub col dd k0 k1 k2 k3 k5, (Kf w).lookup C = some (excClassObj nm q C N bs [.type "object"] true sn sub false col dd k0 k1 k2 k3 k5 "object.__new__")
  ok : nsOkIn (Kf w) N = true
  ga : nsIn (Kf w) N (Str.ofString "__getattribute__") = some none
  gt : nsIn (Kf w) N (Str.ofString "__getattr__") = some none
  sa : nsIn (Kf w) N (Str.ofString "__setattr__") = some none
section
variable {D : Wd} {A : Around} {stk : List (Env × Loc)} {env : Env} {l l' : Loc} {σ σ' : Sto} {s s' : Shared} {X : Value → Shared → Prop} {Q : V → Sto → Prop} {K : Fl → Loc → Sto → Prop} {T : Bool → Sto → Prop} {C N : Addr}
theorem Cs.ns {h : Heap} (c : Cs D.w C N) (k : (Kf D.w).In h) : ∃ m, h.Ns N m := ⟨_, .of_isNs (isNs_of_in k c.ok)⟩
theorem inst_of {h : Heap} {a dx : Addr} {fs : Loc} (r1 : RepO h a (.inst C dx)) (r2 : RepO h dx (.dict fs)) : ∃ m, h.Inst a C m ∧ RepM h m fs ∧ (∀ x, fs.lookup x = none → m x = none) := by
  obtain ⟨o, ho, hc, hd, he, hne⟩ := r1
  obtain ⟨m, hm, hr, hu⟩ := r2
  exact ⟨m, ⟨o, ho, hc, he, .inr ⟨dx, hd, hne, hm⟩⟩, hr, hu⟩
theorem ev_attr {oe : Expr} {name : Str} {p : Pos} (b : Bs D) (c : Cs D.w C N) (hn : nsIn (Kf D.w) N name = some none) (hB : typeLookup (.type "object") name = pure none)
    (h : Ev D A stk env oe σ X fun a σ₁ => ∃ ad dx fs v, a = .ref ad ∧ σ₁ ad = some (.inst C dx) ∧ σ₁ dx = some (.dict fs) ∧ fs.lookup name = some v ∧ (∀ c, v ≠ .con c) ∧ Q v σ₁)
    (he : eval (.Attribute oe name p) env = (do
      let o ← eval oe env
      standAt p.atName
      let r ← holding [o] (getAttr o name true)
      letTemporaryGo oe o r
      pure r) := by with_unfolding_all rfl) : Ev D A stk env (.Attribute oe name p) σ X Q := fun s G => by
  refine Attribute_any_ (wpAny_mono (h s G) (fun v s₁ h₁ => ?_) fun _ _ e => e) he
  obtain ⟨_, σ₁, ⟨ad, dx, fs, v, rfl, ha, hd, hv, hcon, h1⟩, r1, g1, t1⟩ := h₁
  cases r1
  obtain ⟨nm, q, bs, sn, sub, col, dd, k0, k1, k2, k3, k5, ho⟩ := c.obj
  have kin := b.kin.keeps g1.stays
  obtain ⟨mN, hN⟩ := c.ns kin
  obtain ⟨m, hI, hr, hu⟩ := inst_of (g1.rel _ _ ha) (g1.rel _ _ hd)
  obtain ⟨v', hv1, hv2⟩ := hr _ _ hv
  obtain ⟨hp, g, d, tk, os⟩ := s₁
  refine load_attr (kin _ _ ho) hN (ns_none_of kin hN c.ga) (ns_none_of kin hN hn) hB hI hv1 ?_ (pv h1 hv2 (g1.tk _) t1)
  cases hv2 with
  | con v => exact (hcon _ rfl).elim
  | _ => rfl
/-- an object's method -/
theorem ev_imeth {oe : Expr} {name : Str} {apos p : Pos} {es : List Expr} {f : Addr} {y : Option Value} (b : Bs D) (c : Cs D.w C N) (hf : nsIn (Kf D.w) N name = some (some (.ref f)))
    (hfo : ∃ of, (Kf D.w).lookup f = some of ∧ of.cls = .type "function") (hkeep : keepIn (Kf D.w) (.ref f) = true) (hB : typeLookup (.type "object") name = pure y)
    (h : Ev D A stk env oe σ X fun a σ₁ => ∃ ad dx fs, a = .ref ad ∧ σ₁ ad = some (.inst C dx) ∧ σ₁ dx = some (.dict fs) ∧ fs.lookup name = none ∧ Sp D A stk env p es σ₁ X fun ys σ₂ => Cl D A stk (.ref f) (.ref ad :: ys) σ₂ X Q)
    (hp : es.all (fun e => !isStarred e) = true := by rfl) (hbase : attributeBase oe name env (eval oe env) = eval oe env := by rfl)
    (hfew : ((backTo p (starEach es env)).all (fun x => !x.1) && (backToKw p (keywordEach [] env)).all (fun x => x.1.isSome)
      && decide (es.length + ([] : List Keyword).length + (if ([] : List Keyword).isEmpty then 0 else 1) < 30)) = true := by rfl) (hline : (apos.endLine == p.line) = true := by rfl) :
    Ev D A stk env (.Call (.Attribute oe name apos) es [] p) σ X Q := fun s G => by
  rw [arm_eval_Call, hbase]
  refine wpAny_bind (wpAny_mono (h s G) (fun ov s₁ h₁ => ?_) fun _ _ e => e)
  obtain ⟨_, σ₁, ⟨ad, dx, fs, rfl, ha, hd, hv, h1⟩, r1, g1, t1⟩ := h₁
  cases r1
  obtain ⟨nm, q, bs, sn, sub, col, dd, k0, k1, k2, k3, k5, ho⟩ := c.obj
  obtain ⟨of, hof, hofc⟩ := hfo
  have kin := b.kin.keeps g1.stays
  obtain ⟨mN, hN⟩ := c.ns kin
  obtain ⟨m, hI, hr, hu⟩ := inst_of (g1.rel _ _ ha) (g1.rel _ _ hd)
  refine wpAny_bind (wpAny_standAt ?_)
  have hform : methodCallForm (es.length + ([] : List Keyword).length) (backTo p (starEach es env)) (backToKw p (keywordEach [] env)) = true := hfew
  have hpos : methodCallPos true oe env apos p = pure p := by unfold methodCallPos; simp [hline]
  unfold methodCall calleeOf
  rw [hform]
  have fin : wpAny (Mo D) A (callWith p (.ref f) [.ref ad] (backTo p (starEach es env)) []) (PV D stk σ s Q) X s₁ :=
    callWith_sp (P := fun h => (Kf D.w).In h) hp (keeps_K hkeep) (wpAny_mono (h1 s₁ g1) (fun vs s₂ h₂ => by
      obtain ⟨xs, σ₂, h2, r2, g2, t2⟩ := h₂
      exact ⟨b.kin.keeps g2.stays, pv_mono (t1.trans t2) (h2 s₂ _ g2 (.cons (.ref _) r2))⟩) fun _ _ e => e)
  obtain ⟨hp, g, d, tk, os⟩ := s₁
  refine wpAny_bind (wpAny_holding (method_of (kin _ _ ho) hN (ns_none_of kin hN c.ga) (ns_none_of kin hN c.gt) (ns_some_of kin hN hf) (kin _ _ hof) hofc hB hI (hu _ hv) ?_))
  exact wpAny_bind (wpAny_of_eq hpos fin)
/-- x.name = e -/
theorem ex_setattr {oe e : Expr} {name : Str} {p p' : Pos} (b : Bs D) (c : Cs D.w C N) (hn : nsIn (Kf D.w) N name = some none) (hB : typeLookup (.type "object") name = pure none)
    (h : Ev D A ((env, l) :: stk) env e σ X fun v σ₁ => Ev D A ((env, l) :: stk) env oe σ₁ X fun a σ₂ => ∃ ad dx fs, a = .ref ad ∧ σ₂ ad = some (.inst C dx) ∧ σ₂ dx = some (.dict fs) ∧ fs.length ≤ 1000 ∧ K .next l (upd σ₂ dx (.dict ((name, v) :: fs))))
    (hs : swapsWith e (some (.Attribute oe name p')) p.line env = pure false := by rfl) : Ex D A stk env (.Assign [.Attribute oe name p'] e p) l σ X K := fun s G => by
  refine plainObj_wpAny_Assign_Attribute (wpAny_mono (h s G) (fun v s₁ h₁ => ?_) fun _ _ e => e) hs
  obtain ⟨x, σ₁, h1, r1, g1, t1⟩ := h₁
  refine wpAny_mono (h1 s₁ g1) (fun ov s₂ h₂ => ?_) fun _ _ e => e
  obtain ⟨_, σ₂, ⟨ad, dx, fs, rfl, ha, hd, hsz, hK⟩, r2, g2, t2⟩ := h₂
  cases r2
  obtain ⟨nm, q, bs, sn, sub, col, dd, k0, k1, k2, k3, k5, ho⟩ := c.obj
  have kin := b.kin.keeps g2.stays
  obtain ⟨mN, hN⟩ := c.ns kin
  obtain ⟨o, hoa, hoc, hod, hoe, hne⟩ := g2.rel _ _ ha
  obtain ⟨m, hI, hr, hu⟩ := inst_of (g2.rel _ _ ha) (g2.rel _ _ hd)
  have rx := r1.st t2.st
  have hW : Within m (fs.map (·.1)) := fun y hy => by
    false_or_by_contra
    rename_i hnm
    apply hy
    apply hu
    rw [List.lookup_eq_none_iff]
    intro p hp
    simp only [bne_iff_ne, ne_eq]
    intro q
    have q' : y = p.1 := by simpa using q
    exact hnm (q' ▸ List.mem_map_of_mem (f := Prod.fst) hp)
  have hC : ad ≠ C := fun q => by
    have h1 := g2.fresh _ _ ha
    rw [q] at h1
    have h2 := b.kin _ _ ho
    rw [h1] at h2; cases h2
  have keep := fun {h' : Heap} (k : ∀ b o, b ≠ ad → (∀ o₀ dx, s₂.heap.get? ad = some o₀ → o₀.dict = some dx → b ≠ dx) → s₂.heap.get? b = some o → h'.get? b = some o)
    (k2 : ∀ o₀, s₂.heap.get? ad = some o₀ → ∃ o₁, h'.get? ad = some o₁ ∧ o₁.cls = o₀.cls ∧ o₁.data = o₀.data ∧ o₁.slots = o₀.slots ∧ ∀ dx, o₀.dict = some dx → o₁.dict = some dx) => (show ∀ b o, b ≠ dx → s₂.heap.get? b = some o → h'.get? b = some o from by
    intro b ob hb e
    by_cases hba : b = ad
    · subst hba
      rw [hoa] at e; cases e
      obtain ⟨o₁, e1, e2, e3, e4, e5⟩ := k2 o hoa
      rw [e1]
      have e6 := e5 dx hod
      obtain ⟨c1, d1, a1, s1⟩ := o₁
      obtain ⟨c2, d2, a2, s2⟩ := o
      simp only at e2 e3 e4 e6 hod
      rw [e2, e3, e4, e6, hod]
    · exact k b ob hba (fun o₀ dx' h0 hd' => by rw [hoa] at h0; cases h0; rw [hod] at hd'; cases hd'; exact hb) e)
  have hgens := g2.gens
  have hos := g2.os
  obtain ⟨hp, g, d, tk, os⟩ := s₂
  refine store_attr PySem.F.store_object (kin _ _ ho) hN (ns_none_of kin hN c.sa) (ns_none_of kin hN hn) hB hC hI (fun h' tk' hI' hk hk2 => ?_) hW (by
    have h1 : sizeLine ≥ 1000 := by decide
    simp only [List.length_map]; omega)
  have kk := keep hk hk2
  obtain ⟨g3, t3⟩ := g2.setAt (s' := { heap := h', gens := g, drawn := d, toks := tk', os := os }) (o' := .dict ((name, x) :: fs)) hd kk (fun S => by
    obtain ⟨o₁, e1, e2, e3, hd'⟩ := hI'
    have hoa' : h'.get? ad = some o := kk ad o hne.symm hoa
    rw [hoa'] at e1; cases e1
    rcases hd' with ⟨q, _⟩ | ⟨d', q, _, hns⟩
    · rw [hod] at q; cases q
    · rw [hod] at q; cases q
      refine ⟨_, hns, fun y w hy => ?_, fun y hy => ?_⟩
      · show ∃ v', (if y = name then some v else m y) = some v' ∧ RepV h' w v'
        rw [List.lookup_cons] at hy
        by_cases q : y = name
        · subst q; rw [beq_self_eq_true] at hy; cases hy
          exact ⟨v, by rw [if_pos rfl], rx.st S⟩
        · rw [beq_false_of_ne q] at hy
          obtain ⟨v', a, b⟩ := hr y w hy
          exact ⟨v', by rw [if_neg q]; exact a, b.st S⟩
      · show (if y = name then some v else m y) = none
        rw [List.lookup_cons] at hy
        by_cases q : y = name
        · subst q; rw [beq_self_eq_true] at hy; cases hy
        · rw [beq_false_of_ne q] at hy
          rw [if_neg q]; exact hu y hy) rfl rfl
  exact ⟨_, _, _, hK, .next, g3, (t1.trans t2).trans t3⟩
/-- a new object -/
theorem Ao.make {n : Nat} (a : Ao A stk (n + 1)) (C : Addr) (vs : List Value) : Ao (A.under (.builtin "type.__call__" ⟨.ref C :: vs, []⟩)) stk n := by
  obtain ⟨h1, ⟨fs, h2, h3⟩, h4, h5⟩ := a
  refine ⟨h1, ⟨fs, h2, h3⟩, ?_, ?_⟩
  · show A.depth + 1 + 2 * n < recursionLimit; omega
  · show A.units + 1 + 6 * n + 200 < cLine; omega
theorem cl_new {xs : List V} {f : Addr} {n : Nat} (b : Bs D) (ao : Ao A stk (n + 1)) (c : Cs D.w C N) (hf : nsIn (Kf D.w) N (Str.ofString "__init__") = some (some (.ref f)))
    (hfo : ∃ of, (Kf D.w).lookup f = some of ∧ of.cls = .type "function")
    (h : ∀ x dx A', σ x = none → σ dx = none → x ≠ dx → Ao A' stk n → Cl D A' stk (.ref f) (.ref x :: xs) (upd (upd σ dx (.dict [])) x (.inst C dx)) X fun r σ' => r = .none ∧ Q (.ref x) σ') :
    Cl D A stk (.ref C) xs σ X Q := fun s vs G R => by
  obtain ⟨nm, q, bs, sn, sub, col, dd, k0, k1, k2, k3, k5, ho⟩ := c.obj
  obtain ⟨of, hof, hofc⟩ := hfo
  have kin := b.kin.keeps G.stays
  obtain ⟨mN, hN⟩ := c.ns kin
  obtain ⟨hp, g, d, tk, os⟩ := s
  refine wpAny_call_obj_init PySem.F.objNew (kin _ _ ho) hN (ns_some_of kin hN hf) (kin _ _ hof) hofc (fun h' x dx M => ?_)
  obtain ⟨o, hx, hc, hnc, hd⟩ := M.inst
  have hod := M.dict o hx
  rcases hd with ⟨q, _⟩ | ⟨d', q, hne, hns⟩
  · rw [hod] at q; cases q
  rw [hod] at q; cases q
  obtain ⟨g1, t1, n1⟩ := G.new (s' := { heap := h', gens := g, drawn := d, toks := tk, os := os }) (o' := .dict []) M.newD M.keeps ⟨_, hns, fun _ _ e => by simp at e, fun _ _ => rfl⟩ rfl rfl
  have hdx : (upd σ dx (.dict [])) x = none := by rw [upd_ne _ _ hne.symm]; exact G.none_of M.newX
  have t2 : Wy (fz stk) σ hp (upd (upd σ dx (.dict [])) x (.inst C dx)) h' := ⟨t1.st, fun b ob e nn ff => by
    have hb : b ≠ x := fun q => by have := M.newX; rw [← q] at this; rw [this] at e; cases e
    obtain ⟨e1, e2⟩ := t1.tr b ob e nn ff
    exact ⟨e1, by rw [upd_ne _ _ hb]; exact e2⟩⟩
  have g2 : Gd D stk (upd (upd σ dx (.dict [])) x (.inst C dx)) { heap := h', gens := g, drawn := d, toks := tk, os := os } := by
    refine g1.set (s' := { heap := h', gens := g, drawn := d, toks := tk, os := os }) (G.base_none M.newX) (fun p hp => G.frame_get M.newX hp) (.refl _) (fun _ _ _ e => e) ⟨o, hx, hc, hod, hnc, hne⟩ rfl rfl
  refine wpAny_mono (h x dx _ (G.none_of M.newX) (G.none_of M.newD) hne.symm (ao.make C vs) _ _ g2 (.cons (.ref x) (R.st t1.st))) (fun r s' h' => ?_) fun _ _ e => e
  obtain ⟨y, σ', ⟨rfl, hq⟩, ry, g', t'⟩ := h'
  cases ry
  exact ⟨rfl, _, _, hq, .ref _, g', t2.trans t'⟩
end
section
variable {D : Wd} {A : Around} {stk : List (Env × Loc)} {env : Env} {l l' : Loc} {σ σ' : Sto} {s s' : Shared} {X : Value → Shared → Prop} {Q : V → Sto → Prop} {K : Fl → Loc → Sto → Prop} {T : Bool → Sto → Prop}
/-- a clause's tests -/
def Ts (D : Wd) (A : Around) (stk : List (Env × Loc)) (env : Env) (ifs : List Expr) (σ : Sto) (X : Value → Shared → Prop) (T : Bool → Sto → Prop) : Prop :=
  ∀ s, Gd D stk σ s → wpAny (Mo D) A (forIn ifs true fun c r => if r = true then do let ok ← isTrue c env (eval c env); pure (ForInStep.yield ok) else pure (ForInStep.yield r)) (PB D stk σ s T) X s
theorem ts_nil (h : T true σ) : Ts D A stk env [] σ X T := fun s G => wpAny_tests_nil ⟨σ, h, G, .refl _⟩
theorem ts_one {c : Expr} (h : Tv D A stk env c σ X T) : Ts D A stk env [c] σ X T := fun s G => wpAny_tests_one (h s G)

theorem comp_core {own : Option (Addr × List V)} {x : Str} {px : Pos} {elt iter : Expr} {ifs : List Expr} {scope : Scope} {pos : Pos} {cl : List (Str × Addr)} {ia : Addr} {s₀ : Shared} {σ₀ : Sto} {xs : List V} (hh : A.handled = none)
    (hi : ItIs own s.heap ia xs) (G : Gd D ((env, l) :: stk) σ s) (T₀ : Wy (fz ((env, l) :: stk)) σ₀ s₀.heap σ s.heap) (hu : σ ia = none) (hn₀ : NN (fz ((env, l) :: stk)) σ₀ s₀.heap ia) (hf : ia ∉ fz ((env, l) :: stk)) (hb : D.B.get? ia = none)
    (hcell : ∀ y ∈ scope.names, y.2 ≠ .cell) (hkind : scope.kind = .function) (hx : scope.names.lookup x = some .local)
    (body : ∀ ad, σ ad = none → ∃ I : List V → List V → Sto → Prop, I xs [] (upd σ ad (.lst [])) ∧ (∀ ys ac σ', I ys ac σ' → ∀ a xs, own = some (a, xs) → σ' a = some (.lst xs)) ∧
      (∀ y ys ac σ' C lc X', I (y :: ys) ac σ' → Ts D A ((compEnvC scope cl C env, (x, y) :: lc) :: (env, l) :: stk) (compEnvC scope cl C env) ifs σ' X' fun ok σ₁ =>
        if ok then Ev D A ((compEnvC scope cl C env, (x, y) :: lc) :: (env, l) :: stk) (compEnvC scope cl C env) elt σ₁ X' (fun v σ₂ => σ₂ ad = some (.lst ac) ∧ ac.length ≤ sizeLine ∧ I ys (ac ++ [v]) (upd σ₂ ad (.lst (ac ++ [v])))) else I ys ac σ₁) ∧
      (∀ ac σ', I [] ac σ' → Q (.ref ad) σ')) :
    wpAny (Mo D) A (newList []) (fun acc s₃ => wpAny (Mo D) A (newFunctionEnv scope env.globals cl [] env.qual none .none (some env)) (fun cenv s₄ =>
      codeAny (Mo D) A (.compStart (.ListComp elt [⟨.Name x px, iter, ifs, 0⟩] scope pos) 0 (.ref ia) acc { cenv with scope := relabel scope env }) (compPost (Mo D) A X none (PV D ((env, l) :: stk) σ₀ s₀ Q) acc cenv.locals) s₄) X s₃) X s := by
  obtain ⟨g1, t1, n1⟩ := G.newList (xs := []) (vs := []) .nil
  obtain ⟨I, hI, hown, turn, fin⟩ := body _ n1
  refine wpAny_newObj_type (wpAny_newFunctionEnv hcell (by intro y hy; simp at hy) (fun h₁ hns₁ hsb₁ => ?_) hkind)
  dsimp only at hns₁ hsb₁ ⊢
  generalize hH2 : s.heap.push { cls := .type "list", dict := none, data := .seq ([] : List Value).toArray } = H2 at hns₁ hsb₁ ⊢
  have hC : H2.get? H2.objs.size = none := Heap.get?_none_of_le (Nat.le_refl _)
  rw [hH2] at g1 t1
  generalize hD : s.heap.objs.size = ad at *
  generalize hCC : H2.objs.size = C at *
  have old : ∀ b o, H2.get? b = some o → h₁.get? b = some o := fun b o e => hsb₁.extBut b o (fun q => by rw [q, hC] at e; cases e) (Heap.get?_push_of_some _ e)
  have g2 : Gd D ((env, l) :: stk) (upd σ ad (.lst [])) { s with heap := h₁, toks := s.toks + ([] : List (Str × Value)).length } := g1.keeps old rfl rfl
  have g3 : Gd D ((compEnvC scope cl C env, []) :: (env, l) :: stk) (upd σ ad (.lst [])) { s with heap := h₁, toks := s.toks + ([] : List (Str × Value)).length } := by
    refine ⟨g2.stays, g2.rel, g2.fresh, fun p hp => ?_, ?_, g2.gens, g2.os⟩
    · rcases List.mem_cons.mp hp with rfl | hp
      · exact ⟨g1.base_none hC, ⟨_, hns₁, fun y v e => by simp at e⟩, g1.none_of hC⟩
      · exact g2.frs p hp
    · simp only [List.map_cons, List.nodup_cons]
      refine ⟨fun hm => ?_, List.nodup_cons.mp G.nd⟩
      have hm' : C ∈ ((env, l) :: stk).map (·.1.locals) := hm
      obtain ⟨p, hp, e⟩ := List.mem_map.mp hm'
      exact g1.frame_get hC hp e
  obtain ⟨oi, hoi, _⟩ := hi.notTup
  have hiad : ia ≠ ad := fun q => by rw [q, ← hD] at hoi; exact absurd (Heap.lt_size hoi) (Nat.lt_irrefl _)
  have hiH : H2.get? ia = some oi := by rw [← hH2]; exact Heap.get?_push_of_some _ hoi
  have hiC : ia ≠ C := fun q => by rw [q, hC] at hiH; cases hiH
  have hfi : ia ∉ C :: fz ((env, l) :: stk) := fun hm => by
    rcases List.mem_cons.mp hm with q | q
    · exact hiC q
    · exact hf q
  have keep1 : ∀ b o, s.heap.get? b = some o → h₁.get? b = some o := fun b o e => old b o (by rw [← hH2]; exact Heap.get?_push_of_some _ e)
  have hi2 : ItIs own h₁ ia xs := hi.keep (.keeps keep1) (keep1 ia)
  have w2 : Wy (C :: fz ((env, l) :: stk)) σ₀ s₀.heap (upd σ ad (.lst [])) h₁ := by
    have w : Wy (fz ((env, l) :: stk)) σ₀ s₀.heap (upd σ ad (.lst [])) h₁ := (T₀.trans t1).trans (.keeps old)
    exact ⟨w.st, fun b o e n f => w.tr b o e n (fun q => f (.tail _ q))⟩
  have hC₀ : NN (fz ((env, l) :: stk)) σ₀ s₀.heap C := by
    have w : Wy (fz ((env, l) :: stk)) σ₀ s₀.heap (upd σ ad (.lst [])) H2 := T₀.trans t1
    exact w.none_of_new hC
  have huia : (upd σ ad (.lst [])) ia = none := by rw [upd_ne _ _ hiad]; exact hu
  have loop : ∀ s₃ : Shared, s₃ = { s with heap := h₁, toks := s.toks + ([] : List (Str × Value)).length } →
      codeAny (Mo D) A (.compLoop (.ListComp elt [⟨.Name x px, iter, ifs, 0⟩] scope pos) 0 (.ref ia) (.ref ad) (compEnvC scope cl C env))
        (compPost (Mo D) A X none (PV D ((env, l) :: stk) σ₀ s₀ Q) (.ref ad) C) s₃ := by
    rintro s₃ rfl
    refine codeAny_compLoop_tests (fun n s' => ∃ ys ac lc σ', n = ys.length ∧ I ys ac σ' ∧ ItIs own s'.heap ia ys ∧ Gd D ((compEnvC scope cl C env, lc) :: (env, l) :: stk) σ' s' ∧ Wy (C :: fz ((env, l) :: stk)) σ₀ s₀.heap σ' s'.heap ∧ σ' ia = none)
      (fun n s₁ h₁' => ?_) xs.length ⟨xs, [], [], _, rfl, hI, hi2, g3, w2, huia⟩
    obtain ⟨ys, ac, lc, σ₁, rfl, hI₁, hi₁, g1, t1, u1⟩ := h₁'
    cases ys with
    | nil =>
      refine next_end hh g1 (hown _ _ _ hI₁) hi₁ (fun s₂ S k hg ho => ?_)
      have g2 : Gd D ((compEnvC scope cl C env, lc) :: (env, l) :: stk) σ₁ s₂ := g1.but u1 hfi hb S k hg ho
      have t2 := t1.skip (fun o e n f => hn₀ o e n fun q => f (.tail _ q)) S k
      obtain ⟨hbC, ⟨m, hm, hrm⟩, hσC⟩ := g2.frs _ (.head _)
      refine ⟨m, hm, fun h' hs => ?_⟩
      have kC : ∀ b o, b ≠ C → s₂.heap.get? b = some o → h'.get? b = some o := fun b o q e => (hs.2 b q).trans e
      obtain ⟨oC, eC, fC, _⟩ := (show RepF s₂.heap C lc from ⟨m, hm, hrm⟩).shape
      have SC : St s₂.heap h' := .but eC fC kC
      have hCn : C ∉ fz ((env, l) :: stk) := by
        have := g2.nd
        simp only [List.map_cons, List.nodup_cons] at this
        exact this.1
      have g4 : Gd D ((env, l) :: stk) σ₁ { s₂ with heap := h' } := (g2.pop).but (s' := { s₂ with heap := h' }) hσC hCn hbC SC kC rfl rfl
      refine ⟨.ref ad, σ₁, fin _ _ hI₁, .ref _, g4, ⟨t2.st.trans SC, fun b o e n f => ?_⟩⟩
      have hbC' : b ≠ C := fun q => hC₀ o (q ▸ e) (q ▸ n) (q ▸ f)
      obtain ⟨e1, e2⟩ := t2.tr b o e n (fun q => by
          rcases List.mem_cons.mp q with q | q
          · exact hbC' q
          · exact f q)
      exact ⟨kC b o hbC' e1, e2⟩
    | cons y ys =>
      refine next_item g1 (hown _ _ _ hI₁) hi₁ (fun v s₂ rv hi₂ S k hg ho => ?_)
      have g2 : Gd D ((compEnvC scope cl C env, lc) :: (env, l) :: stk) σ₁ s₂ := g1.but u1 hfi hb S k hg ho
      have t2 := t1.skip (fun o e n f => hn₀ o e n fun q => f (.tail _ q)) S k
      refine wpAny_assign_Name (wpAny_mono (as_local (D := D) (A := A) (env := compEnvC scope cl C env) (l := lc) (σ := σ₁) (R := fun l' σ' => l' = (x, y) :: lc ∧ σ' = σ₁) ⟨rfl, rfl⟩ (lookup_relabel_local (env := env) hx) (by simp [compEnvC, relabel, hkind]) s₂ v g2 rv) (fun _ s₃ h₃ => ?_) fun _ _ e => e)
      obtain ⟨l₃, σ₃, ⟨rfl, rfl⟩, g3, t3⟩ := h₃
      obtain ⟨oi, hoi, _⟩ := hi₂.notTup
      have k3 := t3.tr ia oi hoi u1 hfi
      have hi₃ := hi₂.keep t3.st fun o e => by rw [hoi] at e; cases e; exact k3.1
      refine wpAny_mono (turn y ys ac σ₃ C lc _ hI₁ s₃ g3) (fun ok s₄ h₄ => ?_) fun _ _ e => e
      obtain ⟨σ₄, h4, g4, t4⟩ := h₄
      have k4 := t4.tr ia oi k3.1 k3.2 hfi
      have hi₄ := hi₃.keep t4.st fun o e => by rw [k3.1] at e; cases e; exact k4.1
      cases ok with
      | false => exact ⟨ys.length, by simp, ys, ac, _, σ₄, rfl, h4, hi₄, g4, (t2.trans t3).trans t4, k4.2⟩
      | true =>
        refine wpAny_mono (h4 s₄ g4) (fun xv s₅ h₅ => ?_) fun _ _ e => e
        obtain ⟨z, σ₅, ⟨ha5, hz5, h5⟩, r5, g5, t5⟩ := h₅
        have k5 := t5.tr ia oi k4.1 k4.2 hfi
        have hi₅ := hi₄.keep t5.st fun o e => by rw [k4.1] at e; cases e; exact k5.1
        refine wpAny_mono (cl_append (D := D) (A := A) (Q := fun _ σ' => σ' = upd σ₅ ad (.lst (ac ++ [z]))) ha5 hz5 rfl s₅ [.ref ad, xv] g5 (.cons (.ref _) (.cons r5 .nil))) (fun _ s₆ h₆ => ?_) fun _ _ e => e
        obtain ⟨_, σ₆, rfl, _, g6, t6⟩ := h₆
        have k6 := t6.tr ia oi k5.1 k5.2 hfi
        have hi₆ := hi₅.keep t6.st fun o e => by rw [k5.1] at e; cases e; exact k6.1
        exact ⟨ys.length, by simp, ys, _, _, _, rfl, h5, hi₆, g6, (((t2.trans t3).trans t4).trans t5).trans t6, k6.2⟩
  refine codeAny_compStart_list (loop _ rfl) ?_
  cases hi2 with
  | tup _ _ hit => exact wpAny_pyIter_tupleiter hit (loop _ rfl)
  | lst _ hit => exact wpAny_pyIter_listiter hit (loop _ rfl)
  | rng hit => exact wpAny_pyIter_rangeiter hit (loop _ rfl)

/-- [elt for x in list if ..] -/
theorem ev_comp_list {x : Str} {px : Pos} {elt iter : Expr} {ifs : List Expr} {scope : Scope} {pos : Pos} (cl : List (Str × Addr)) (hh : A.handled = none) (hclos : closureFor scope env = pure cl)
    (h : Ev D A ((env, l) :: stk) env iter σ X fun v σ₁ => ∃ a xs, v = .ref a ∧ σ₁ a = some (.lst xs) ∧ ∀ ad, σ₁ ad = none → ∃ I : List V → List V → Sto → Prop, I xs [] (upd σ₁ ad (.lst [])) ∧ (∀ ys ac σ', I ys ac σ' → σ' a = some (.lst xs)) ∧
      (∀ y ys ac σ' C lc X', I (y :: ys) ac σ' → Ts D A ((compEnvC scope cl C env, (x, y) :: lc) :: (env, l) :: stk) (compEnvC scope cl C env) ifs σ' X' fun ok σ₁ =>
        if ok then Ev D A ((compEnvC scope cl C env, (x, y) :: lc) :: (env, l) :: stk) (compEnvC scope cl C env) elt σ₁ X' (fun v σ₂ => σ₂ ad = some (.lst ac) ∧ ac.length ≤ sizeLine ∧ I ys (ac ++ [v]) (upd σ₂ ad (.lst (ac ++ [v])))) else I ys ac σ₁) ∧
      (∀ ac σ', I [] ac σ' → Q (.ref ad) σ'))
    (hs : ∀ x, foldedSetIterable iter env x = pure x := by intro _; rfl) (hcell : scope.names.all (fun y => y.2 != .cell) = true := by rfl) (hkind : scope.kind = .function := by rfl) (hx : scope.names.lookup x = some .local := by rfl)
    (hnames : scope.names.all (fun x => x.2 != .local || scope.names.lookup x.1 == some .local) = true := by rfl) :
    Ev D A ((env, l) :: stk) env (.ListComp elt [⟨.Name x px, iter, ifs, 0⟩] scope pos) σ X Q := fun s G => by
  rw [eval_ListComp]
  refine wpAny_comprehension_free rfl hs hclos hkind (fun x hx hl => ?_) (wpAny_mono (h s G) (fun v s₁ h₁ => ?_) fun _ _ e => e)
  · have := List.all_eq_true.mp hnames _ hx
    simpa [hl] using this
  obtain ⟨_, σ₁, ⟨a, xs, rfl, ha, body⟩, r1, g1, t1⟩ := h₁
  cases r1
  obtain ⟨vs, hl', hr, hn⟩ := (g1.rel _ _ ha).isList
  refine wpAny_pyIter_list hl' ?_
  have hN : s₁.heap.get? s₁.heap.objs.size = none := Heap.get?_none_of_le (Nat.le_refl _)
  have k := keeps_push s₁.heap { cls := .type "list_iterator", data := .fields #[.ref a, .int 0 0] }
  refine comp_core (own := some (a, xs)) (σ := σ₁) (σ₀ := σ) (s₀ := s) (xs := xs) hh ?_ (g1.keeps (s' := { s₁ with heap := _ }) k rfl rfl) (t1.trans (.keeps k)) (g1.none_of hN) (t1.none_of_new hN) (g1.not_frame hN) (g1.base_none hN) (fun y hy => by have := List.all_eq_true.mp hcell _ hy; simpa using this) hkind hx (fun ad had => ?_)
  · have := ItIs.lst (own := some (a, xs)) (h := s₁.heap.push { cls := .type "list_iterator", data := .fields #[.ref a, .int 0 0] }) (ia := s₁.heap.objs.size) (i := 0) rfl ⟨_, Heap.get?_push_size _ rfl, rfl, rfl⟩
    simpa using this
  · obtain ⟨I, h1, h2, h3, h4⟩ := body ad had
    exact ⟨I, h1, fun ys ac σ' hi b zs e => by cases e; exact h2 _ _ _ hi, h3, h4⟩
/-- [elt for x in range(..) if ..] -/
theorem ev_comp_range {x : Str} {px np p' : Pos} {es : List Expr} {elt : Expr} {ifs : List Expr} {scope : Scope} {pos : Pos} (b : Bs D) (cl : List (Str × Addr)) (hh : A.handled = none) (hclos : closureFor scope env = pure cl)
    (h : Sp D A ((env, l) :: stk) env p' es σ X fun xs σ₁ => ∃ a c, (xs = [.int a, .int c] ∨ (xs = [.int c] ∧ a = 0)) ∧ -(2 ^ 62) ≤ a ∧ a < 2 ^ 62 ∧ -(2 ^ 62) ≤ c ∧ c < 2 ^ 62 ∧ ∀ ad, σ₁ ad = none → ∃ I : List V → List V → Sto → Prop, I (rgI a (c - a).toNat) [] (upd σ₁ ad (.lst [])) ∧
      (∀ y ys ac σ' C lc X', I (y :: ys) ac σ' → Ts D A ((compEnvC scope cl C env, (x, y) :: lc) :: (env, l) :: stk) (compEnvC scope cl C env) ifs σ' X' fun ok σ₁ =>
        if ok then Ev D A ((compEnvC scope cl C env, (x, y) :: lc) :: (env, l) :: stk) (compEnvC scope cl C env) elt σ₁ X' (fun v σ₂ => σ₂ ad = some (.lst ac) ∧ ac.length ≤ sizeLine ∧ I ys (ac ++ [v]) (upd σ₂ ad (.lst (ac ++ [v])))) else I ys ac σ₁) ∧
      (∀ ac σ', I [] ac σ' → Q (.ref ad) σ'))
    (e : nsIn (Kf D.w) mainGlobals (Str.ofString "range") = some none) (hp : es.all (fun e => !isStarred e) = true := by rfl)
    (hk : env.scope.kind = .function := by rfl) (hlr : env.kindOf (Str.ofString "range") = some .globalImplicit := by rfl) (hg : env.globals = mainGlobals := by rfl) (hb : env.builtins = builtinsNs := by rfl)
    (hs : ∀ v, foldedSetIterable (.Call (.Name (Str.ofString "range") np) es [] p') env v = pure v := by intro _; rfl) (hcell : scope.names.all (fun y => y.2 != .cell) = true := by rfl) (hkind : scope.kind = .function := by rfl) (hx : scope.names.lookup x = some .local := by rfl)
    (hnames : scope.names.all (fun x => x.2 != .local || scope.names.lookup x.1 == some .local) = true := by rfl) :
    Ev D A ((env, l) :: stk) env (.ListComp elt [⟨.Name x px, .Call (.Name (Str.ofString "range") np) es [] p', ifs, 0⟩] scope pos) σ X Q := fun s G => by
  rw [eval_ListComp]
  refine wpAny_comprehension_free rfl hs hclos hkind (fun x hx hl => ?_) (callB_raw (f := .type "range") b e (by rfl) (by intro a h; cases h) G (fun s₀ G₀ => wpAny_mono (h s₀ G₀) (fun vs s₁ h₁ => ?_) fun _ _ e => e) hp (by decide) hk hlr hg hb (by decide))
  · have := List.all_eq_true.mp hnames _ hx
    simpa [hl] using this
  obtain ⟨xs, σ₁, ⟨a, c, hxs, ha, ha', hc, hc', body⟩, r1, g1, t1⟩ := h₁
  refine ⟨xs, σ₁, ?_, r1, g1, t1⟩
  intro s₂ vs₂ g2 r2 t2
  have fin : ∀ (st : Obj) (hst : ∃ t u v, st = { cls := .type "range", data := .fields #[.int a t, .int c u, .int 1 v] }) (tk : Tok), wpAny (Mo D) A (pyIter (.ref s₂.heap.objs.size))
      (fun it s₃ => wpAny (Mo D) A (newList []) (fun acc s₄ => wpAny (Mo D) A (newFunctionEnv scope env.globals cl [] env.qual none .none (some env)) (fun cenv s₅ =>
        codeAny (Mo D) A (.compStart (.ListComp elt [⟨.Name x px, .Call (.Name (Str.ofString "range") np) es [] p', ifs, 0⟩] scope pos) 0 it acc { cenv with scope := relabel scope env }) (compPost (Mo D) A X none (PV D ((env, l) :: stk) σ s Q) acc cenv.locals) s₅) X s₄) X s₃) X { s₂ with heap := s₂.heap.push st, toks := tk } := by
    rintro st ⟨t, u, v, rfl⟩ tk
    have k := keeps_push s₂.heap { cls := .type "range", data := .fields #[.int a t, .int c u, .int 1 v] }
    refine wpAny_pyIter_range (IsRange.new ..) (small_one ha ha' hc hc') ?_
    have k2 := keeps_push (s₂.heap.push { cls := .type "range", data := .fields #[.int a t, .int c u, .int 1 v] }) { cls := .type "range_iterator", data := .fields #[rawInt a, rawInt (Builtin.Range.rangeSize a c 1), rawInt 1] }
    have kk : ∀ b o, s₂.heap.get? b = some o → ((s₂.heap.push { cls := .type "range", data := .fields #[.int a t, .int c u, .int 1 v] }).push { cls := .type "range_iterator", data := .fields #[rawInt a, rawInt (Builtin.Range.rangeSize a c 1), rawInt 1] }).get? b = some o := fun b o e => k2 _ _ (k _ _ e)
    have hN : s₂.heap.get? (s₂.heap.push { cls := .type "range", data := .fields #[.int a t, .int c u, .int 1 v] }).objs.size = none := Heap.get?_none_of_le (by rw [Heap.size_push]; exact Nat.le_succ _)
    refine comp_core (own := none) (σ := σ₁) (σ₀ := σ) (s₀ := s) (xs := rgI a (c - a).toNat) hh ?_ (g2.keeps (s' := { s₂ with heap := _, toks := tk }) kk rfl rfl) (t2.trans (.keeps kk)) (g2.none_of hN) (t2.none_of_new hN) (g2.not_frame hN) (g2.base_none hN) (fun y hy => by have := List.all_eq_true.mp hcell _ hy; simpa using this) hkind hx (fun ad had => ?_)
    · have := ItIs.rng (own := none) (h := (s₂.heap.push { cls := .type "range", data := .fields #[.int a t, .int c u, .int 1 v] }).push { cls := .type "range_iterator", data := .fields #[rawInt a, rawInt (Builtin.Range.rangeSize a c 1), rawInt 1] }) (ia := (s₂.heap.push { cls := .type "range", data := .fields #[.int a t, .int c u, .int 1 v] }).objs.size) (x := a) (left := Builtin.Range.rangeSize a c 1) (Heap.get?_push_size _ rfl)
      have e : (Builtin.Range.rangeSize a c 1).toNat = (c - a).toNat := by rw [rangeSize_one]; split <;> omega
      rw [e] at this
      exact this
    · obtain ⟨I, h1, h3, h4⟩ := body ad had
      exact ⟨I, h1, fun ys ac σ' hi b zs e => (by cases e), h3, h4⟩
  rcases hxs with rfl | ⟨rfl, rfl⟩
  · cases r2 with | cons ra rb => cases rb with | cons rb rc => cases rc; cases ra; cases rb; exact call_range_2 (fin _ ⟨_, _, _, rfl⟩ _)
  · cases r2 with | cons ra rb => cases rb; cases ra; exact call_range_1 (fin _ ⟨_, _, _, rfl⟩ _)
end
def cellUpd (σ : Sto) (cs : List (Str × Addr)) (cmv : Str → Option V) : Sto := cs.foldr (fun p σ => upd σ p.2 (.cell (cmv p.1))) σ
def RepC (h : Heap) (v' : Option Value) (v : Option V) : Prop := match v with | some x => ∃ y, v' = some y ∧ RepV h x y | none => True
section
variable {D : Wd} {A : Around} {stk : List (Env × Loc)} {env : Env} {l l' : Loc} {σ σ' : Sto} {s s' : Shared} {X : Value → Shared → Prop} {Q : V → Sto → Prop} {K : Fl → Loc → Sto → Prop} {T : Bool → Sto → Prop}
theorem gd_cells {cm : Str → Option Value} {cmv : Str → Option V} : ∀ (cs : List (Str × Addr)), Gd D stk σ s → (∀ p ∈ cs, s.heap.IsCell p.2 (cm p.1) ∧ D.B.get? p.2 = none ∧ (∀ q ∈ stk, q.1.locals ≠ p.2) ∧ RepC s.heap (cm p.1) (cmv p.1)) → Gd D stk (cellUpd σ cs cmv) s := by
  intro cs
  induction cs with
  | nil => intro G _; exact G
  | cons p cs ih =>
    intro G h
    obtain ⟨⟨o, ho, hd⟩, hb, hf, hr⟩ := h p (.head _)
    refine (ih G (fun q hq => h q (.tail _ hq))).set (s' := s) hb hf (.refl _) (fun _ _ _ e => e) ⟨o, _, ho, hd, ?_⟩ rfl rfl
    unfold RepC at hr
    exact hr
theorem cellUpd_none {cs : List (Str × Addr)} {cmv : Str → Option V} {a : Addr} (h : ∀ p ∈ cs, p.2 ≠ a) : cellUpd σ cs cmv a = σ a := by
  induction cs with
  | nil => rfl
  | cons p cs ih =>
    show upd (cellUpd σ cs cmv) p.2 _ a = _
    rw [upd_ne _ _ (Ne.symm (h p (.head _)))]
    exact ih fun q hq => h q (.tail _ hq)
theorem cl_defC {xs : List V} {f : Addr} {n : Nat} {names : List Str} {name qual : Str} {params : Arguments} {body : List Stmt} {scope : Scope} {dV kV doc pm cdv ct oc : Value} {an od : Option Addr} {osl : Array (Option Value)}
    (b : Bs D) (ao : Ao A stk (n + 1)) (ho : (Kf D.w).lookup f = some ⟨oc, od, .func (fnOf name qual params body scope dV kV doc pm an cdv ct), osl⟩) (hcd : codeIn (Kf D.w) cdv qual = true)
    (hbind : ∀ (vs : List Value), vs.length = xs.length → bindArgs (fnOf name qual params body scope dV kV doc pm an cdv ct) ⟨vs, []⟩ = pure (names.zip vs))
    (hkind : ∀ k, ∀ x ∈ names, scope.names.lookup x = some .local ∨ (scope.names.lookup x = some .cell ∧ ((cellsFrom k scope.names []).lookup x).isSome = true))
    (hnd : ((cellsFrom 0 scope.names []).map (·.1)).Nodup) (l : Loc) (cmv : Str → Option V)
    (hm : ∀ h vs L, RepVs h xs vs → RepM h (bindL (envOfC qual scope L f cdv).kindOf (names.zip vs) fun _ => none) l)
    (hc : ∀ h vs L, RepVs h xs vs → ∀ p ∈ cellsFrom (L + 1) scope.names [], RepC h (bindC (envOfC qual scope L f cdv).kindOf (names.zip vs) (fun _ => none) p.1) (cmv p.1))
    (h : ∀ L, σ L = none → (∀ p ∈ cellsFrom (L + 1) scope.names [], σ p.2 = none) → ∀ A', Ao A' ((envOfC qual scope L f cdv, l) :: stk) n →
      Exs D A' stk (envOfC qual scope L f cdv) body l (cellUpd σ (cellsFrom (L + 1) scope.names []) cmv) (Lv D A (envOfC qual scope L f cdv) X) fun fl _ σ' => Q (retv fl) σ')
    (hk : scope.kind = .function := by rfl) (hco : scope.isCoroutine = false := by rfl) (hgen : scope.isGenerator = false := by rfl) :
    Cl D A stk (.ref f) xs σ X Q := fun s vs G R => by
  obtain ⟨pr, lo, mg, mb, T⟩ := b.top
  have kin := b.kin.keeps G.stays
  have hz : vs.length = xs.length := R.length
  refine wpAny_call (codeAny_call_cells (fd := fnOf name qual params body scope dV kV doc pm an cdv ct) (body := body) (binds := names.zip vs) (by have := ao.depth; omega) (kin _ _ ho) rfl (T.nolimit.keeps G.stays) (codeRec_of kin hcd) rfl (hbind vs hz) rfl
    (fun x hx => hkind _ _ (List.of_mem_zip hx |>.1)) (fun s₁ x => ?_) hco hgen hk)
  have hkp := x.toInCall.keep
  obtain ⟨h₁, tk, rfl, _⟩ := x.done
  have hL : s.heap.get? s.heap.objs.size = none := Heap.get?_none_of_le (Nat.le_refl _)
  have hcell : ∀ p ∈ cellsFrom (s.heap.objs.size + 1) scope.names [], s.heap.get? p.2 = none := fun p hp => Heap.get?_none_of_le (Nat.le_of_lt (x.above p.1 p.2 hp))
  have g0 : Gd D stk σ { s with heap := h₁, toks := tk } := G.keeps hkp rfl rfl
  have g1 : Gd D ((envOfC qual scope s.heap.objs.size f cdv, l) :: stk) σ { s with heap := h₁, toks := tk } := by
    refine ⟨g0.stays, g0.rel, g0.fresh, fun p hp => ?_, ?_, g0.gens, g0.os⟩
    · rcases List.mem_cons.mp hp with rfl | hp
      · exact ⟨G.base_none hL, ⟨_, x.toInCall.ns, hm _ _ _ (R.st (.keeps hkp))⟩, G.none_of hL⟩
      · exact g0.frs p hp
    · simp only [List.map_cons, List.nodup_cons]
      refine ⟨fun hm => ?_, G.nd⟩
      obtain ⟨p, hp, e⟩ := List.mem_map.mp hm
      exact G.frame_get hL hp e
  have g2 : Gd D ((envOfC qual scope s.heap.objs.size f cdv, l) :: stk) (cellUpd σ (cellsFrom (s.heap.objs.size + 1) scope.names []) cmv) { s with heap := h₁, toks := tk } := by
    refine gd_cells (cm := bindC (envOfC qual scope s.heap.objs.size f cdv).kindOf (names.zip vs) fun _ => none) _ g1 (fun p hp => ⟨?_, G.base_none (hcell p hp), fun q hq => ?_, hc _ _ _ (R.st (.keeps hkp)) p hp⟩)
    · exact x.cell p.1 p.2 (lookup_of_mem_nodup (cellsFrom_names scope.names 0 (s.heap.objs.size + 1) [] [] rfl ▸ hnd) hp)
    · rcases List.mem_cons.mp hq with rfl | hq
      · exact Nat.ne_of_lt (x.above p.1 p.2 hp)
      · exact G.frame_get (hcell p hp) hq
  have ao' := ao.deeper (env := envOfC qual scope s.heap.objs.size f cdv) (l := l) rfl hk
  refine wpAny_mono (h _ (G.none_of hL) (fun p hp => G.none_of (hcell p hp)) _ ao' _ g2) (fun fl s' h' => ?_) fun e s' h' => h'
  obtain ⟨fl', l', σ', hq, rf, g', t'⟩ := h'
  have g3 := g'.pop
  have w2 : Wy (fz stk) σ s.heap σ' s'.heap := by
    refine ⟨(St.keeps hkp).trans t'.st, fun c o e nn fr => ?_⟩
    refine t'.tr c o (hkp c o e) ?_ ?_
    · rw [cellUpd_none (fun p hp q => by have := hcell p hp; rw [q, e] at this; cases this)]; exact nn
    · intro hm
      rcases List.mem_cons.mp hm with q | q
      · rw [q] at e
        have : s.heap.get? s.heap.objs.size = some o := e
        rw [hL] at this; cases this
      · exact fr q
  cases rf with
  | next => exact ⟨_, _, hq, .none, g3, w2⟩
  | brk => exact ⟨_, _, hq, .none, g3, w2⟩
  | cont => exact ⟨_, _, hq, .none, g3, w2⟩
  | ret r => exact ⟨_, _, hq, r, g3, w2⟩
end
section
variable {prog : Program} {w : World} {A : Around} {E : Value → Shared → Prop} {h : Heap} {g : Array GenState} {d : Drawn} {t : Nat} {os : OsState}
variable {nm q : Str} {C N : Addr} {bs bm bmB : List Value} {hdct : Bool} {sn : List Str} {sub : List Value} {ab : Bool} {col : Option Bool} {dd : Option Addr} {k0 k1 k2 k3 k5 : Option Value} {B newId initId : String}
/-- a class whose init is its parent's -/
theorem check_new_in (F : ExcBaseFacts B newId initId bmB) (hc : ∀ X : String, bm.contains (.type X) = bmB.contains (.type X)) {M : Model} {rest : List Value} {Q : Unit → Shared → Prop} (hC : h.get? C = some (excClassObj nm q C N bs bm hdct sn sub ab col dd k0 k1 k2 k3 k5 newId))
    (hq : Q () ⟨h, g, d, t, os⟩) : wpAny M A (checkBuiltinCall newId ⟨.ref C :: rest, []⟩) Q E ⟨h, g, d, t, os⟩ := by
  have hcont : (Value.ref C :: bm).contains (.type B) = true := by rw [List.contains_cons, hc, F.hasB, Bool.or_true]
  have hstar := F.noStar
  simp only [checkBuiltinCall, F.newKind, F.newSplit, F.newRow]
  repeat (first | refine wpAny_loadPart_at hC ?_ | (refine wpAny_isSubtype_exc hC ?_; rw [hcont]) | refine wpAny_staticBase_exc hC ?_ | refine wpAny_madeBy_exc hC ?_ | simp only [bne_self_eq_false, Bool.false_eq_true, if_false] | wp_step)
  exact hq
theorem exc_new_in (F : ExcBaseFacts B newId initId bmB) (hc : ∀ X : String, bm.contains (.type X) = bmB.contains (.type X)) {R : Result → Shared → Prop} {rest : List Value} (hC : h.get? C = some (excClassObj nm q C N bs bm hdct sn sub ab col dd k0 k1 k2 k3 k5 newId))
    (hq : R (.ok (.ret (.ref (h.objs.size + 1)))) ⟨(h.push { cls := .type "tuple", data := .seq rest.toArray }).push
      { cls := .ref C, data := .fields #[.ref h.objs.size, .none, .none, .none, .bool false, .none] }, g, d, t, os⟩) (hrest : rest.length ≤ sizeLine) :
    codeAny (model prog w) A (.builtin newId ⟨.ref C :: rest, []⟩) R ⟨h, g, d, t, os⟩ := by
  have hends := F.ends
  have hcB : (Value.ref C :: bm).contains (.type B) = true := by rw [List.contains_cons, hc, F.hasB, Bool.or_true]
  have hcA : (Value.ref C :: bm).contains (.type "AttributeError") = false := by rw [List.contains_cons, hc, F.noAttr]; rfl
  have hcN : (Value.ref C :: bm).contains (.type "NameError") = false := by rw [List.contains_cons, hc, F.noName]; rfl
  refine PySem.codeAny_builtinAt F.entry ?_
  unfold Builtin.«BaseException.__new__»
  refine PySem.wpAt_bind ?_
  show PySem.wpAt _ _ _ (stack >>= _) _ _ _
  refine PySem.wpAt_bind (PySem.wpAt_stack fun p below => PySem.wpAt_of_wpAny ?_)
  wp_walk
  refine PySem.wpAt_of_wpAny ?_
  rw [F.owner]
  repeat (first | with_reducible refine wpAny_madeHere_exc F.canon hC ?_ | with_reducible refine wpAny_loadPart_at hC ?_ | (with_reducible refine wpAny_isSubtype_exc hC ?_; first | rw [hcB] | rw [hcA] | rw [hcN]) | wp_step)
  show R _ _
  rw [Heap.size_push]
  exact hq
theorem type_call_in (F : ExcBaseFacts B newId initId bmB) (hc : ∀ X : String, bm.contains (.type X) = bmB.contains (.type X)) {mN mP : Str → Option Value} {rest tl : List Value} {fI : Addr} {oI : Obj} {Pc : Addr} {c0 : Value} {pd : Option Addr} {pcd : ClassData} {psl : Array (Option Value)} {Q : Fin → Shared → Prop}
    (hC : h.get? C = some (excClassObj nm q C N bs bm hdct sn sub ab col dd k0 k1 k2 k3 k5 newId)) (hn : h.Ns N mN) (hni : mN "__init__" = none) (hbm : bm = .ref Pc :: tl)
    (hP : h.get? Pc = some { cls := c0, dict := pd, data := .cls pcd, slots := psl }) (hnP : h.Ns pcd.ns mP) (hi : mP "__init__" = some (.ref fI))
    (hfI : h.get? fI = some oI) (hfc : oI.cls = .type "function")
    (hq : ∀ h' e, Heap.MadeExcOf h h' e (.ref C) rest →
      wpAny (model prog w) A (call (.ref fI) (.ref e :: rest)) (fun r s' => r = .none ∧ Q (.done (.ret (.ref e))) s') E ⟨h', g, d, t, os⟩) (hrest : rest.length ≤ sizeLine) :
    wpAny (model prog w) A (Builtin.«type.__call__» ⟨.ref C :: rest, []⟩) Q E ⟨h, g, d, t, os⟩ := by
  repeat (first | with_reducible refine wpAny_loadPart_at hC ?_ | with_reducible refine wpAny_madeBy_exc hC ?_ | wp_step)
  refine codeAny_call_builtin_code (Code.quiet_builtin _ F.quiet) (check_new_in F hc hC ?_)
  refine exc_new_in F hc hC ?_ hrest
  show wpAny _ _ _ _ _ _
  have kp : ∀ b o, h.get? b = some o → ((h.push { cls := .type "tuple", data := .seq rest.toArray }).push { cls := .ref C, data := .fields #[.ref h.objs.size, .none, .none, .none, .bool false, .none] }).get? b = some o :=
    fun b o e => Heap.get?_push_of_some _ (Heap.get?_push_of_some _ e)
  have hC₁ := kp _ _ hC
  have hfI₁ := kp _ _ hfI
  have hP₁ := kp _ _ hP
  have hn₁ := hn.keeps kp
  have hnP₁ := hnP.keeps kp
  have hget : ((h.push { cls := .type "tuple", data := .seq rest.toArray }).push
      { cls := .ref C, data := .fields #[.ref h.objs.size, .none, .none, .none, .bool false, .none] }).get? (h.objs.size + 1) = some
      { cls := .ref C, data := .fields #[.ref h.objs.size, .none, .none, .none, .bool false, .none] } := by heap_get
  have hcC : (Value.ref C :: bm).contains (.ref C) = true := by simp
  unfold isInstance
  repeat (first | with_reducible refine wpAny_loadPart_at hget ?_ | (with_reducible refine wpAny_isSubtype_exc hC₁ ?_; rw [hcC]) | wp_step)
  show wpAny _ _ (typeLookup (.ref C) _) _ _ _
  rw [typeLookup_eq]
  refine wpAny_bind (wpAny_mroOf_exc hC₁ ?_)
  rw [lookupAlong_cons]
  refine wpAny_bind (wpAny_classOwn_exc hC₁ hn₁ ?_)
  rw [hni, hbm]
  show wpAny _ _ (lookupAlong (Value.ref Pc :: tl) _) _ _ _
  rw [lookupAlong_cons]
  refine wpAny_bind (wpAny_classOwn_cls hP₁ hnP₁ ?_)
  rw [hi]
  refine wpAny_pure ?_
  refine wpAny_holding (wpAny_bind ?_)
  unfold bindSpecial
  refine wpAny_bind (wpAny_typeOf (T := "function") ⟨_, hfI₁, hfc⟩ ?_)
  rw [if_pos (by decide)]
  refine wpAny_pure (wpAny_bind (wpAny_mono (hq _ (h.objs.size + 1) ⟨fun b o hb => Heap.get?_push_of_some _ (Heap.get?_push_of_some _ hb), Heap.get?_none_of_le (Nat.le_succ _), h.objs.size, hget, Heap.get?_none_of_le (Nat.le_refl _), ?_⟩) (fun r s' hr => ?_) fun _ _ x => x))
  · exact Heap.get?_push_of_some _ (Heap.get?_push_at rfl rfl)
  · obtain ⟨rfl, hQ⟩ := hr
    wp_walk
    exact hQ
theorem call_in (F : ExcBaseFacts B newId initId bmB) (hc : ∀ X : String, bm.contains (.type X) = bmB.contains (.type X)) {mN mP : Str → Option Value} {rest tl : List Value} {fI : Addr} {oI : Obj} {Pc : Addr} {c0 : Value} {pd : Option Addr} {pcd : ClassData} {psl : Array (Option Value)} {Q : Value → Shared → Prop}
    (hC : h.get? C = some (excClassObj nm q C N bs bm hdct sn sub ab col dd k0 k1 k2 k3 k5 newId)) (hn : h.Ns N mN) (hni : mN "__init__" = none) (hbm : bm = .ref Pc :: tl)
    (hP : h.get? Pc = some { cls := c0, dict := pd, data := .cls pcd, slots := psl }) (hnP : h.Ns pcd.ns mP) (hi : mP "__init__" = some (.ref fI))
    (hfI : h.get? fI = some oI) (hfc : oI.cls = .type "function")
    (hq : ∀ h' e, Heap.MadeExcOf h h' e (.ref C) rest →
      wpAny (model prog w) (A.under (.builtin "type.__call__" ⟨.ref C :: rest, []⟩)) (call (.ref fI) (.ref e :: rest)) (fun r s' => r = .none ∧ Q (.ref e) s') E ⟨h', g, d, t, os⟩) (hrest : rest.length ≤ sizeLine) :
    wpAny (model prog w) A (call (.ref C) rest) Q E ⟨h, g, d, t, os⟩ := by
  have f1 := tc_lookup
  have f2 := tc_bind (.ref C)
  have hT : (⟨h, g, d, t, os⟩ : Shared).TypeIs (.ref C) "type" := ⟨_, hC, rfl⟩
  refine wpAny_call (codeAny_of_tree ?_)
  show wpAny _ _ (callAny (.ref C) _) _ _ _
  repeat (any_goals (first | assumption | with_reducible refine wpAny_loadPart_at hC ?_ | wp_step))
  refine ⟨rfl, ?_⟩
  refine codeAny_call_builtin_at (Code.quiet_builtin _ (by decide +kernel)) entry_typeCall (wpAny_check_type_call_sub hC (type_call_in F hc hC hn hni hbm hP hnP hi hfI hfc (fun h' e hm => ?_) hrest))
  exact hq h' e hm
theorem raise_made {env : Env} {s : Shared} {x : Sem Value} {Q : Flow → Shared → Prop} (hbase : bm.contains (.type "BaseException") = true) (hh : A.handled = none) {M : Model}
    (h : wpAny M A x (fun v s₁ => ∃ e o t, v = .ref e ∧ s₁.heap.get? C = some (excClassObj nm q C N bs bm hdct sn sub ab col dd k0 k1 k2 k3 k5 newId) ∧
      s₁.heap.get? e = some o ∧ o.cls = .ref C ∧ o.data = .fields #[t, .none, .none, .none, .bool false, .none] ∧ E (.ref e) s₁) E s) :
    wpAny M A (raiseStmt env (some x) none) Q E s := by
  have hcB : (Value.ref C :: bm).contains (.type "BaseException") = true := by rw [List.contains_cons, hbase, Bool.or_true]
  unfold raiseStmt
  refine wpAny_bind (wpAny_mono h (fun v s₁ h₁ => ?_) fun _ _ x => x)
  obtain ⟨e, o, tt, rfl, hC, he, hoc, hod, hE⟩ := h₁
  obtain ⟨oc, odd, odt, osl⟩ := o
  simp only at hoc hod
  subst hoc hod
  obtain ⟨hp, g, d, tk, os⟩ := s₁
  repeat (first | with_reducible refine wpAny_loadPart_at he ?_ | with_reducible refine wpAny_loadPart_at hC ?_ | (with_reducible refine wpAny_isSubtype_exc hC ?_; rw [hcB]) | wp_step)
  exact wpAny_raiseNew_none hh hE
end
section
open PySem.Builtin PySem.Builtin.ObjectAttr
variable {prog : Program} {w : World} {A : Around} {E : Value → Shared → Prop} {h : Heap} {g : Array GenState} {d : Drawn} {t : Nat} {os : OsState}
variable {nm q : Str} {C N x : Addr} {bs bm bmB : List Value} {sn : List Str} {sub : List Value} {ab : Bool} {col : Option Bool} {dd : Option Addr} {k0 k1 k2 k3 k5 : Option Value} {B newId initId sa owner : String}
  {mN mP : Str → Option Value} {Pc : Addr} {c0 : Value} {pd : Option Addr} {pcd : ClassData} {psl : Array (Option Value)} {name : Str} {v : Value}
theorem typeLookup_in {hdct : Bool} {M : Model} {y : Option Value} {Q : Option Value → Shared → Prop} (hC : h.get? C = some (excClassObj nm q C N bs (.ref Pc :: bmB) hdct sn sub ab col dd k0 k1 k2 k3 k5 newId)) (hn : h.Ns N mN) (hna : mN name = none)
    (hP : h.get? Pc = some { cls := c0, dict := pd, data := .cls pcd, slots := psl }) (hnP : h.Ns pcd.ns mP) (hnp : mP name = none) (hm : mroOf (.type B) = pure bmB) (hB : typeLookup (.type B) name = pure y)
    (hq : Q y ⟨h, g, d, t, os⟩) : wpAny M A (typeLookup (.ref C) name) Q E ⟨h, g, d, t, os⟩ := by
  have hrest : lookupAlong bmB name = pure y := by rw [typeLookup_eq, hm] at hB; exact hB
  rw [typeLookup_eq]
  refine wpAny_bind (wpAny_mroOf_exc hC ?_)
  rw [lookupAlong_cons]
  refine wpAny_bind (wpAny_classOwn_exc hC hn ?_)
  rw [hna]
  show wpAny _ _ (lookupAlong (Value.ref Pc :: bmB) _) _ _ _
  rw [lookupAlong_cons]
  refine wpAny_bind (wpAny_classOwn_cls hP hnP ?_)
  rw [hnp]
  show wpAny _ _ (lookupAlong bmB _) _ _ _
  rw [hrest]
  exact wpAny_pure hq
theorem check_sa_in {M : Model} {o : Obj} {nameV : Value} {Q : Unit → Shared → Prop} (SF : StoreFacts B bmB sa owner)
    (hC : h.get? C = some (excClassObj nm q C N bs (.ref Pc :: bmB) true sn sub ab col dd k0 k1 k2 k3 k5 newId)) (hx : h.get? x = some o) (hc : o.cls = .ref C) (hq : Q () ⟨h, g, d, t, os⟩) :
    wpAny M A (checkBuiltinCall sa ⟨[.ref x, nameV, v], []⟩) Q E ⟨h, g, d, t, os⟩ := by
  have hcB : (Value.ref C :: .ref Pc :: bmB).contains (.type owner) = true := by rw [List.contains_cons, List.contains_cons, SF.hasOwner]; simp
  have ha := SF.args (.ref x) nameV v
  simp only [checkBuiltinCall, SF.kind, SF.split]
  refine wpAny_bind ?_
  · unfold isInstance
    repeat (first | (with_reducible refine wpAny_loadPart_at hx ?_; rw [hc]) | (with_reducible refine wpAny_isSubtype_exc hC ?_; rw [hcB]) | wp_step)
    cases hsig : Manifest.signature? sa with
    | none => exact wpAny_pure hq
    | some sig =>
      simp only [argsOk, hsig] at ha
      have h2 : Bind.checkArgs sa sig ⟨[.ref x, nameV, v], []⟩ = pure () := ha
      show wpAny M A (Bind.checkArgs sa sig ⟨[.ref x, nameV, v], []⟩) Q E _
      rw [h2]; exact wpAny_pure hq
/-- the first field of an object without a dict -/
theorem store_in {tk : Tok} {o : Obj} {Q : Fin → Shared → Prop} (SF : StoreFacts B bmB sa owner)
    (hC : h.get? C = some (excClassObj nm q C N bs (.ref Pc :: bmB) true sn sub ab col dd k0 k1 k2 k3 k5 newId)) (hn : h.Ns N mN) (hna : mN name = none)
    (hP : h.get? Pc = some { cls := c0, dict := pd, data := .cls pcd, slots := psl }) (hnP : h.Ns pcd.ns mP) (hnp : mP name = none)
    (hB : typeLookup (.type B) name = pure none) (hx : h.get? x = some o) (hc : o.cls = .ref C) (hnc : ∀ c, o.data ≠ .cls c) (hdn : o.dict = none)
    (hq : ∀ h' tk' dx, (∀ b o, b ≠ x → h.get? b = some o → h'.get? b = some o) → h'.get? x = some { o with dict := some dx } → Q (.done (.ret .none)) ⟨h', g, d, tk', os⟩) :
    wpAny (model prog w) A (Builtin.«object.__setattr__» ⟨[.ref x, .str name tk, v], []⟩) Q E ⟨h, g, d, t, os⟩ := by
  have hpass := SF.passes (.ref x)
  unfold Builtin.«object.__setattr__»
  repeat (first | rw [refuse_eq] | (rw [refuseLoop_ref, refuseLoop_ref, hpass]) | (with_reducible refine wpAny_loadPart_at hx ?_; rw [hc]) | with_reducible refine wpAny_mroOf_exc hC ?_ | (with_reducible refine typeLookup_in hC hn hna hP hnP hnp SF.mro hB ?_) | wp_step)
  rw [hdn, if_neg (by simp [typeHasDict])]
  split
  · rename_i hcd
    cases hcd
  split
  · rename_i c hcd
    exact absurd hcd (hnc c)
  · have hx₁ : (h.push { cls := .type "dict", data := .dict #[] }).get? x = some o := Heap.get?_push_of_some _ hx
    have hxs : x ≠ h.objs.size := Nat.ne_of_lt (Heap.lt_size hx)
    refine wpAny_bind (wpAny_alloc' ?_)
    refine wpAny_bind (wpAny_update' hx₁ ?_)
    refine wpAny_pure ?_
    have hgd : ((h.push { cls := .type "dict", data := .dict #[] }).update x fun o => { cls := o.cls, dict := some h.objs.size, data := o.data, slots := o.slots }).get? h.objs.size
        = some { cls := .type "dict", data := .dict #[] } :=
      (Heap.get?_update_ne _ _ _ _ hxs.symm).trans (Heap.get?_push_at rfl rfl)
    have hnd : ((h.push { cls := .type "dict", data := .dict #[] }).update x fun o => { cls := o.cls, dict := some h.objs.size, data := o.data, slots := o.slots }).Ns h.objs.size (fun _ => none) :=
      ⟨_, #[], _, hgd, rfl, fun e he => absurd he (by simp), fun _ => rfl⟩
    show wpAny _ _ (storeInDict h.objs.size (.str name tk) name v) _ _ _
    unfold storeInDict newKeyGuard
    refine wpAny_bind (wpAny_pure (wpAny_bind (wpAny_nsSet1 (Heap.Ns1.of_empty hnd) fun h' hn' hs => ?_)))
    obtain ⟨oD, esD, epD, hoD, hdD, hcD⟩ := hn'.count (Within.cons name v Within.nil)
    refine wpAny_bind (wpAny_lookBehind hoD (by rw [hdD]; exact pastItsLine_dict (Nat.le_trans hcD (by rw [List.length_cons, List.length_nil, sizeLine_eq]; omega))) ?_)
    wp_walk
    have hx' : h'.get? x = some { o with dict := some h.objs.size } := by
      refine (hs.2 x hxs).trans (Heap.get?_update_self _ hx₁ ?_)
      have hfr := (Heap.get?_some_iff.mp hx).2
      obtain ⟨oc, od, odt, osl⟩ := o
      cases odt <;> first | rfl | exact hfr
    refine hq h' _ _ (fun b ob hbx hb => ?_) hx'
    exact (hs.2 b (Nat.ne_of_lt (Heap.lt_size hb))).trans ((Heap.get?_update_ne _ _ _ _ hbx).trans (Heap.get?_push_of_some _ hb))
theorem setattr_in {o : Obj} {Q : Unit → Shared → Prop} (SF : StoreFacts B bmB sa owner)
    (hC : h.get? C = some (excClassObj nm q C N bs (.ref Pc :: bmB) true sn sub ab col dd k0 k1 k2 k3 k5 newId)) (hn : h.Ns N mN) (hns : mN "__setattr__" = none) (hna : mN name = none)
    (hP : h.get? Pc = some { cls := c0, dict := pd, data := .cls pcd, slots := psl }) (hnP : h.Ns pcd.ns mP) (hnps : mP "__setattr__" = none) (hnp : mP name = none)
    (hB : typeLookup (.type B) name = pure none) (hx : h.get? x = some o) (hc : o.cls = .ref C) (hnc : ∀ c, o.data ≠ .cls c) (hdn : o.dict = none)
    (hq : ∀ h' tk' dx, (∀ b o, b ≠ x → h.get? b = some o → h'.get? b = some o) → h'.get? x = some { o with dict := some dx } → Q () ⟨h', g, d, tk', os⟩) :
    wpAny (model prog w) A (setAttr (.ref x) name v) Q E ⟨h, g, d, t, os⟩ := by
  have f3 := SF.slot.bind (.ref x)
  unfold setAttr callSpecial? specialOf
  repeat (any_goals (first | assumption | (with_reducible refine wpAny_loadPart_at hx ?_; rw [hc]) | (with_reducible refine typeLookup_in hC hn hns hP hnP hnps SF.mro SF.slot.lookup ?_) | wp_step))
  refine codeAny_call_builtin SF.slot.plain SF.entry (check_sa_in SF hC hx hc (store_in SF hC hn hna hP hnP hnp hB hx hc hnc hdn (fun h' tk' dx hk hsame => ?_)))
  repeat (any_goals (first | assumption | wp_step))
  exact hq h' tk' dx hk hsame
end

abbrev bmV : List Value := [.type "ValueError", .type "Exception", .type "BaseException", .type "object"]
theorem runObj (w : World) : ∃ nm q bs sn sub ab col dd k0 k1 k2 k3 k5, (Kf w).lookup 64 = some (excClassObj nm q 64 63 bs (.ref 39 :: bmV) true sn sub ab col dd k0 k1 k2 k3 k5 "ValueError.__new__") := ⟨_,_,_,_,_,_,_,_,_,_,_,_,_,rfl⟩
theorem pageObj (w : World) : ∃ nm q bs sn sub ab col dd k0 k1 k2 k3 k5, (Kf w).lookup 39 = some (excClassObj nm q 39 38 bs bmV true sn sub ab col dd k0 k1 k2 k3 k5 "ValueError.__new__") := ⟨_,_,_,_,_,_,_,_,_,_,_,_,_,rfl⟩
theorem run_ok (w : World) : nsOkIn (Kf w) 63 = true := by kernel_rfl
theorem page_ok (w : World) : nsOkIn (Kf w) 38 = true := by kernel_rfl
section
variable {D : Wd} {A : Around} {stk : List (Env × Loc)} {env : Env} {l l' : Loc} {σ σ' : Sto} {s s' : Shared} {X : Value → Shared → Prop} {Q : V → Sto → Prop} {K : Fl → Loc → Sto → Prop} {T : Bool → Sto → Prop}
theorem run_ns (b : Bs D) (k : (Kf D.w).In s.heap) : ∃ m, s.heap.Ns 63 m := ⟨_, .of_isNs (isNs_of_in k (run_ok _))⟩
theorem page_ns (b : Bs D) (k : (Kf D.w).In s.heap) : ∃ m, s.heap.Ns 38 m := ⟨_, .of_isNs (isNs_of_in k (page_ok _))⟩
/-- e.reason = v at a new Runaway -/
theorem ex_setexc {oe e : Expr} {p p' : Pos} (b : Bs D)
    (h : Ev D A ((env, l) :: stk) env e σ X fun v σ₁ => Ev D A ((env, l) :: stk) env oe σ₁ X fun a σ₂ => ∃ ad t, a = .ref ad ∧ σ₂ ad = some (.exc 64 t true) ∧ K .next l (upd σ₂ ad (.exc 64 t false)))
    (hs : swapsWith e (some (.Attribute oe (Str.ofString "reason") p')) p.line env = pure false := by rfl) : Ex D A stk env (.Assign [.Attribute oe (Str.ofString "reason") p'] e p) l σ X K := fun s G => by
  refine plainObj_wpAny_Assign_Attribute (wpAny_mono (h s G) (fun v s₁ h₁ => ?_) fun _ _ e => e) hs
  obtain ⟨x, σ₁, h1, r1, g1, t1⟩ := h₁
  refine wpAny_mono (h1 s₁ g1) (fun ov s₂ h₂ => ?_) fun _ _ e => e
  obtain ⟨_, σ₂, ⟨ad, tt, rfl, ha, hK⟩, r2, g2, t2⟩ := h₂
  cases r2
  obtain ⟨nm, q, bs, sn, sub, ab, col, dd, k0, k1, k2, k3, k5, ho⟩ := runObj D.w
  obtain ⟨nm', q', bs', sn', sub', ab', col', dd', k0', k1', k2', k3', k5', ho'⟩ := pageObj D.w
  have kin := b.kin.keeps g2.stays
  obtain ⟨mN, hN⟩ := run_ns (s := s₂) b kin
  obtain ⟨mP, hP⟩ := page_ns (s := s₂) b kin
  obtain ⟨o, hoa, hoc, hod, hdn⟩ := g2.rel _ _ ha
  have hgens := g2.gens
  have hos := g2.os
  obtain ⟨hp, g, d, tk, os⟩ := s₂
  refine setattr_in PySem.F.store_ValueError (kin _ _ ho) hN (ns_none_of kin hN (by rfl)) (ns_none_of kin hN (by rfl)) (kin _ _ ho') hP (ns_none_of kin hP (by rfl)) (ns_none_of kin hP (by rfl)) (by rw [typeLookup_type, builtinLookup_eq_fast]; kernel_rfl) hoa hoc (fun c q => by rw [hod] at q; cases q) (hdn rfl) (fun h' tk' dx hk hx => ?_)
  obtain ⟨g3, t3⟩ := g2.setAt (s' := { heap := h', gens := g, drawn := d, toks := tk', os := os }) (o' := .exc 64 tt false) ha hk (fun S => ⟨_, hx, hoc, hod, fun q => by cases q⟩) rfl rfl
  exact ⟨_, _, _, hK, .next, g3, (t1.trans t2).trans t3⟩
theorem c_perr {a : Addr} {t : Value} {x : V} (b : Bs D) (ao : Ao A stk 1) (hs : σ a = some (.exc 64 t true)) (h : Q .none (upd σ a (.exc 64 t false))) : Cl D A stk (.ref 36) [.ref a, x] σ X Q := by
  refine cl_def (names := [Str.ofString "self", Str.ofString "reason"]) (xs := [.ref a, x]) (ys := []) (ws := []) b ao rfl (by kernel_rfl) ?hb .nil ?hl ?body
  case hb =>
    intro s vs hst hv
    match vs, hv with
    | [x, y], _ => exact binds_K (b.kin.keeps hst) rfl rfl rfl rfl rfl
  case hl => rfl
  case body =>
    intro L hL A' hA ao'
    clear hA
    simp only [List.zip_cons_cons, List.zip_nil_right, List.append_nil, List.reverse_cons, List.reverse_nil, List.nil_append, List.cons_append] at ao' ⊢
    repeat (first | (with_reducible refine exs_cons ?_) | (with_reducible refine exs_nil ?_) | (with_reducible refine nx_next ?_) | (refine ev_local rfl ?_))
    refine ex_setexc b ?_
    repeat (first | (with_reducible refine exs_cons ?_) | (with_reducible refine exs_nil ?_) | (with_reducible refine nx_next ?_) | (refine ev_local rfl ?_))
    refine ⟨_, _, rfl, hs, ?_⟩
    repeat (first | (with_reducible refine exs_cons ?_) | (with_reducible refine exs_nil ?_) | (with_reducible refine nx_next ?_) | (refine ev_local rfl ?_))
    exact h
theorem cl_runaway {x : V} (b : Bs D) (ao : Ao A stk 2) (h : ∀ e t, σ e = none → Q (.ref e) (upd σ e (.exc 64 t false))) : Cl D A stk (.ref 64) [x] σ X Q := fun s vs G R => by
  obtain ⟨nm, q, bs, sn, sub, ab, col, dd, k0, k1, k2, k3, k5, ho⟩ := runObj D.w
  obtain ⟨nm', q', bs', sn', sub', ab', col', dd', k0', k1', k2', k3', k5', ho'⟩ := pageObj D.w
  have kin := b.kin.keeps G.stays
  obtain ⟨mN, hN⟩ := run_ns (s := s) b kin
  obtain ⟨mP, hP⟩ := page_ns (s := s) b kin
  have hf : ∃ of, (Kf D.w).lookup 36 = some of ∧ of.cls = .type "function" := ⟨_, rfl, rfl⟩
  obtain ⟨of, hof, hofc⟩ := hf
  have hz := R.length
  obtain ⟨hp, g, d, tk, os⟩ := s
  refine call_in PySem.F.excBase_ValueError (fun X => by rw [List.contains_cons]; rfl) (kin _ _ ho) hN (ns_none_of kin hN (by rfl)) rfl (kin _ _ ho') hP (ns_some_of kin hP (by rfl)) (kin _ _ hof) hofc (fun h' e hm => ?_) (by rw [hz]; show 1 ≤ sizeLine; decide)
  obtain ⟨t, he, htn, ht⟩ := hm.there
  obtain ⟨g1, t1, n1⟩ := G.new (s' := { heap := h', gens := g, drawn := d, toks := tk, os := os }) (o' := .exc 64 (.ref t) true) hm.new hm.keeps ⟨_, he, rfl, rfl, fun _ => rfl⟩ rfl rfl
  have r1 : RepVs h' [.ref e, x] (.ref e :: vs) := .cons (.ref _) (R.st t1.st)
  refine wpAny_mono (c_perr (x := x) (t := .ref t) (Q := fun r σ' => r = .none ∧ σ' = upd σ e (.exc 64 (.ref t) false)) b (ao.make 64 vs) (upd_self _ _ _) ⟨rfl, upd_upd _ _ _ _⟩ _ _ g1 r1) (fun r s' h' => ?_) fun _ _ e => e
  obtain ⟨y, σ', ⟨rfl, rfl⟩, ry, g', t'⟩ := h'
  cases ry
  exact ⟨rfl, pv (h _ _ n1) (.ref _) g' (t1.trans t')⟩
/-- a Runaway as it is raised -/
def Rw (D : Wd) (stk : List (Env × Loc)) (v : Value) (s : Shared) : Prop := ∃ e σ t, v = .ref e ∧ Gd D stk σ s ∧ σ e = some (.exc 64 t false)
theorem ex_raise {fn : Str} {np cpos pos : Pos} {args : List Expr} (b : Bs D) (hh : A.handled = none) (h : Ev D A ((env, l) :: stk) env (.Call (.Name fn np) args [] cpos) σ X fun v σ₁ => ∃ e t, v = .ref e ∧ σ₁ e = some (.exc 64 t false))
    (hX : ∀ v s', Rw D ((env, l) :: stk) v s' → X v s') : Ex D A stk env (.Raise (some (.Call (.Name fn np) args [] cpos)) none pos) l σ X K := fun s G => by
  obtain ⟨nm, q, bs, sn, sub, ab, col, dd, k0, k1, k2, k3, k5, ho⟩ := runObj D.w
  rw [arm_exec_Raise]
  have hraise : ∀ {x : Sem Value}, wpAny (Mo D) A x (fun v s₁ => ∃ x σ₁ e t, v = .ref e ∧ σ₁ e = some (.exc 64 t false) ∧ Gd D ((env, l) :: stk) σ₁ s₁ ∧ x = V.ref e) X s → wpAny (Mo D) A (raiseStmt env (some x) none) (PF D stk env σ s K) X s := fun h => by
    refine raise_made (C := 64) (nm := nm) (q := q) (N := 63) (bs := bs) (bm := .ref 39 :: bmV) (hdct := true) (sn := sn) (sub := sub) (ab := ab) (col := col) (dd := dd) (k0 := k0) (k1 := k1) (k2 := k2) (k3 := k3) (k5 := k5) (newId := "ValueError.__new__") (by decide) hh (wpAny_mono h (fun v s₁ h₁ => ?_) fun _ _ e => e)
    obtain ⟨x, σ₁, e, t, rfl, he, g1, rfl⟩ := h₁
    obtain ⟨o, hoe, hoc, hod, _⟩ := g1.rel _ _ he
    exact ⟨e, o, t, rfl, (b.kin.keeps g1.stays) _ _ ho, hoe, hoc, hod, hX _ _ ⟨e, σ₁, t, rfl, g1, he⟩⟩
  have hcall : wpAny (Mo D) A (eval (.Call (.Name fn np) args [] cpos) env) (fun v s₁ => ∃ x σ₁ e t, v = .ref e ∧ σ₁ e = some (.exc 64 t false) ∧ Gd D ((env, l) :: stk) σ₁ s₁ ∧ x = V.ref e) X s := by
    refine wpAny_mono (h s G) (fun v s₁ h₁ => ?_) fun _ _ e => e
    obtain ⟨_, σ₁, ⟨e, t, rfl, he⟩, r1, g1, t1⟩ := h₁
    cases r1
    exact ⟨_, σ₁, e, t, rfl, he, g1, rfl⟩
  first
    | exact wpAny_bind (wpAny_standAt (hraise (wpAny_bind (wpAny_mono hcall (fun v s₃ h₃ => wpAny_bind (wpAny_standAt (wpAny_pure h₃))) fun _ _ x => x))))
    | (simp only [evalOpt, Option.map]; exact wpAny_bind (wpAny_standAt (hraise (wpAny_bind (wpAny_mono hcall (fun v s₃ h₃ => wpAny_bind (wpAny_standAt (wpAny_pure h₃))) fun _ _ x => x)))))
    | exact wpAny_bind (wpAny_standAt (hraise hcall))
end
section
variable {D : Wd} {A : Around} {stk : List (Env × Loc)} {env : Env} {l l' : Loc} {σ σ' : Sto} {s s' : Shared} {X : Value → Shared → Prop} {Q : V → Sto → Prop} {K : Fl → Loc → Sto → Prop} {T : Bool → Sto → Prop}
/-- a Runaway in flight -/
def Fy (D : Wd) (A : Around) (stk : List (Env × Loc)) (v : Value) (s' : Shared) : Prop :=
  ∃ e B₁ fs a0, v = .ref e ∧ A.frames = some fs ∧ D.B.StaysIn B₁ ∧ Heap.FlyingW B₁ fs e (.ref 64) a0 s'.heap ∧ (∀ p ∈ stk, D.B.get? p.1.locals = none ∧ ∃ m, s'.heap.Ns p.1.locals m ∧ RepM B₁ m p.2) ∧
    (stk.map (·.1.locals)).Nodup ∧ s'.gens = #[] ∧ s'.os = D.os
theorem funFrames_of {h B : Heap} : ∀ {l : List Env}, (∀ e ∈ l, e.scope.kind ≠ .module ∧ ∃ L o, e.frame = some L ∧ B.get? L = none ∧ h.get? L = some o ∧ ∀ vs, o.data ≠ .fields vs) → h.FunFrames B l
  | [], _ => trivial
  | _ :: _, h => ⟨(h _ (.head _)).1, (h _ (.head _)).2, funFrames_of fun e he => h e (.tail _ he)⟩
theorem raw_leave {n : Nat} {v : Value} (ao : Ao A stk n) (hf : env.frame = some env.locals) (hk : env.scope.kind = .function) (h : Rw D ((env, l) :: stk) v s') (hX : ∀ v s'', Fy D A stk v s'' → X v s'') : Lv D A env X v s' := by
  obtain ⟨e, σ, t, rfl, G, he⟩ := h
  obtain ⟨fs, hfs, hfe⟩ := ao.frames
  obtain ⟨o, hoe, hoc, hod, _⟩ := G.rel _ _ he
  have hen := G.fresh _ _ he
  have hs : D.B.StaysIn (hideAll s'.heap (env.locals :: e :: fz stk)) := fun b ob q => hideAll_get _ (G.stays _ _ q) fun hm => by
    rcases List.mem_cons.mp hm with rfl | hm
    · rw [(G.frs _ (.head _)).1] at q; cases q
    rcases List.mem_cons.mp hm with rfl | hm
    · rw [hen] at q; cases q
    · obtain ⟨p, hp, rfl⟩ := List.mem_map.mp hm
      rw [(G.frs p (.tail _ hp)).1] at q; cases q
  have hSt : St s'.heap (hideAll s'.heap (env.locals :: e :: fz stk)) := fun a vs n q => hideAll_get _ q fun hm => by
    rcases List.mem_cons.mp hm with rfl | hm
    · obtain ⟨ob, h1, h2, _⟩ := (G.frs _ (.head _)).2.1.shape
      rw [q] at h1; cases h1; exact h2 _ _ rfl
    rcases List.mem_cons.mp hm with rfl | hm
    · rw [q] at hoe; cases hoe; cases hoc
    · obtain ⟨p, hp, rfl⟩ := List.mem_map.mp hm
      obtain ⟨ob, h1, h2, _⟩ := (G.frs p (.tail _ hp)).2.1.shape
      rw [q] at h1; cases h1; exact h2 _ _ rfl
  have hframe : ∀ p ∈ (env, l) :: stk, ∃ ob, s'.heap.get? p.1.locals = some ob ∧ ∀ vs, ob.data ≠ .fields vs := fun p hp => by
    obtain ⟨ob, h1, _, h3⟩ := (G.frs p hp).2.1.shape
    exact ⟨ob, h1, h3⟩
  refine wpAny_leaving_firstW (base := hideAll s'.heap (env.locals :: e :: fz stk)) (outer := fs) (L := env.locals) (a0 := t) (by show A.frames.map (env :: ·) = _; rw [hfs]; rfl) (funFrames_of fun e' he' => ?_) hf hoe (fun b ob q => of_hideAll _ q) (hideAll_none _ (.tail _ (.head _))) hod rfl rfl (fun h' hL => ?_)
  · rcases List.mem_cons.mp he' with rfl | he'
    · obtain ⟨ob, h1, h2⟩ := hframe _ (.head _)
      exact ⟨by rw [hk]; decide, _, ob, hf, hideAll_none _ (.head _), h1, h2⟩
    · obtain ⟨h1, h2, h3⟩ := hfe e' he'
      obtain ⟨p, hp, rfl⟩ := List.mem_map.mp h1
      obtain ⟨ob, h4, h5⟩ := hframe p (.tail _ hp)
      exact ⟨h3, _, ob, h2, hideAll_none _ (.tail _ (.tail _ (List.mem_map_of_mem (f := fun p : Env × Loc => p.1.locals) hp))), h4, h5⟩
  · obtain ⟨k1, ⟨_, _, k2⟩, k3, k4⟩ := hL
    rw [hoc] at k3
    refine hX _ _ ⟨e, _, fs, t, rfl, hfs, hs, ⟨k1, hideAll_none _ (.tail _ (.head _)), k2, k3⟩, fun p hp => ?_, (List.nodup_cons.mp G.nd).2, G.gens, G.os⟩
    obtain ⟨h1, ⟨m, hm, hr⟩, h3⟩ := G.frs p (.tail _ hp)
    exact ⟨h1, m, (show s'.heap.UpToSlots h' from k4).ns hm, hr.st hSt⟩
theorem fly_leave {v : Value} (hf : env.frame = some env.locals) (h : Fy D (A.deeper env) ((env, l) :: stk) v s') (hX : ∀ v s'', Fy D A stk v s'' → X v s'') : Lv D A env X v s' := by
  obtain ⟨e, B₁, fs', a0, rfl, hfs', hs, hfl, hfr, hnd, hg, ho⟩ := h
  cases hA : A.frames with
  | none => rw [show (A.deeper env).frames = A.frames.map (env :: ·) from rfl, hA] at hfs'; cases hfs'
  | some fs =>
    have e1 : fs' = env :: fs := by
      rw [show (A.deeper env).frames = A.frames.map (env :: ·) from rfl, hA] at hfs'
      cases hfs'; rfl
    subst e1
    refine wpAny_leaves_onW hfs' hf hfl (fun h' hfl' hsm => hX _ _ ⟨e, B₁, fs, a0, rfl, hA, hs, hfl', fun p hp => ?_, (List.nodup_cons.mp hnd).2, hg, ho⟩)
    obtain ⟨h1, m, hm, hr⟩ := hfr p (.tail _ hp)
    exact ⟨h1, m, hsm.ns hm, hr⟩

def mix (as : List Addr) (σ' σ : Sto) : Sto := fun a => match σ' a with | some o => some o | none => if a ∈ as then none else σ a
def only (as : List Addr) (σ : Sto) : Sto := fun a => if a ∈ as then σ a else none
def less (as : List Addr) (σ : Sto) : Sto := fun a => if a ∈ as then none else σ a
theorem ex_try {body suite : List Stmt} {b₀ : Stmt} {fn : Str} {np hpos pos : Pos} {outer : List Env} {K1 : Loc → Sto → Prop} (b : Bs D) (hfs : A.frames = some (env :: outer)) (hf : env.frame = some env.locals) (as : List Addr) (has : ∀ a ∈ as, ∃ o, σ a = some o)
    (hbody : ∀ (B' : Heap) (X' : Value → Shared → Prop), Bs ⟨D.w, B', D.os⟩ → (∀ v s', Fy ⟨D.w, B', D.os⟩ A ((env, l) :: stk) v s' → X' v s') → Exs ⟨D.w, B', D.os⟩ A stk env body l (only as σ) X' fun fl l' σ' => fl = .next ∧ K1 l' σ')
    (hnorm : ∀ l' σ', K1 l' σ' → K .next l' (mix as σ' σ))
    (hexc : ∀ e, Exs D (A.mark (some e)) stk env (b₀ :: suite) l (less as σ) X K)
    (hglob : nsIn (Kf D.w) mainGlobals fn = some (some (.ref 64)))
    (hX : ∀ e, PassesOwnAt (Mo D) (A.mark (some e)) A env X)
    (hk : env.scope.kind = .function := by rfl) (hl : env.kindOf fn = some .globalImplicit := by rfl) (hg : env.globals = mainGlobals := by rfl)
    (hd : (fn == ("__debug__" : Str)) = false := by decide) :
    Ex D A stk env (.Try body [.ExceptHandler (some (.Name fn np)) none (b₀ :: suite) hpos] [] [] pos) l σ X K := fun s G => by
  have hB : D.B.StaysIn (hideAll s.heap (fz ((env, l) :: stk) ++ as)) := fun a o e => hideAll_get _ (G.stays _ _ e) fun hm => by
    rcases List.mem_append.mp hm with hm | hm
    · obtain ⟨p, hp, rfl⟩ := List.mem_map.mp hm
      rw [(G.frs p hp).1] at e; cases e
    · obtain ⟨o', ho'⟩ := has a hm
      rw [G.fresh _ _ ho'] at e; cases e
  generalize hBB : hideAll s.heap (fz ((env, l) :: stk) ++ as) = B' at hB
  have hof : ∀ a o, B'.get? a = some o → s.heap.get? a = some o := fun a o e => by rw [← hBB] at e; exact of_hideAll _ e
  have hin : ∀ a o, s.heap.get? a = some o → a ∉ fz ((env, l) :: stk) → a ∉ as → B'.get? a = some o := fun a o e h1 h2 => by
    rw [← hBB]; exact hideAll_get _ e fun hm => (List.mem_append.mp hm).elim h1 h2
  have hno : ∀ a, a ∈ fz ((env, l) :: stk) ∨ a ∈ as → B'.get? a = none := fun a h => by
    rw [← hBB]; exact hideAll_none _ (List.mem_append.mpr h)
  have htup : ∀ a vs n, s.heap.get? a = some (tupO vs n) → B'.get? a = some (tupO vs n) := fun a vs n e => by
    refine hin a _ e (fun hm => ?_) (fun hm => ?_)
    · obtain ⟨p, hp, rfl⟩ := List.mem_map.mp hm
      obtain ⟨ob, h1, h2, _⟩ := (G.frs p hp).2.1.shape
      rw [e] at h1; cases h1; exact h2 _ _ rfl
    · obtain ⟨o', ho'⟩ := has a hm
      obtain ⟨ob, h1, h2⟩ := (G.rel _ _ ho').shape
      rw [e] at h1; cases h1; exact h2 _ _ rfl
  have hfzσ : ∀ a, a ∈ fz ((env, l) :: stk) → σ a = none := fun a hm => by
    obtain ⟨p, hp, rfl⟩ := List.mem_map.mp hm
    exact (G.frs p hp).2.2
  have hkeep : ∀ a o, σ a = some o → a ∉ as → ∃ ob, s.heap.get? a = some ob ∧ B'.get? a = some ob := fun a o e hm => by
    obtain ⟨ob, h1, _⟩ := (G.rel _ _ e).shape
    exact ⟨ob, h1, hin a ob h1 (fun q => by rw [hfzσ a q] at e; cases e) hm⟩
  have G' : Gd ⟨D.w, B', D.os⟩ ((env, l) :: stk) (only as σ) s := by
    refine ⟨hof, fun a o e => G.rel a o ?_, fun a o e => ?_, fun p hp => ⟨hno _ (.inl (List.mem_map_of_mem (f := fun p : Env × Loc => p.1.locals) hp)), (G.frs p hp).2.1, ?_⟩, G.nd, G.gens, G.os⟩
    · unfold only at e; split at e; exact e; cases e
    · unfold only at e; split at e; (rename_i h; exact hno _ (.inr h)); cases e
    · unfold only; split; exact (G.frs p hp).2.2; rfl
  have b' : Bs ⟨D.w, B', D.os⟩ := by
    obtain ⟨p, lo, mg, mb, T⟩ := b.top
    exact ⟨b.kin.keeps hB, p, lo, mg, mb, T.keeps hB⟩
  refine wpAny_Try_except (wpAny_mono (hbody B' _ b' (fun v s' hy => ?_) s G') (fun f s₁ h₁ => ?_) fun _ _ e => e)
  · obtain ⟨e, B₁, fs', a0, rfl, hfs', hs, hfl, hfr, hnd, hgens, hos⟩ := hy
    rw [hfs] at hfs'; cases hfs'
    refine wpAny_looks_onW hfs hf hfl fun h₄ hheld₄ hsm₄ => ?_
    refine wpAny_landsW hheld₄ fun h₅ hheld hsm₅ => ?_
    obtain ⟨pr, lo, mg, mb, T⟩ := b.top
    have st5 : D.B.StaysIn h₅ := fun a o e => hheld.1 _ _ (hs _ _ (hB _ _ e))
    refine wpAny_handleBy_cons (codeAny_handlers_test (Calls.Name_function_global hk hl (Calls.loadGlobal_global (hg ▸ T.g.keeps st5) (mg_of b.kin T.g hglob) ?_) hd)) (by intro q; cases q)
    obtain ⟨nm, q, bs, sn, sub, ab, col, dd, k0, k1, k2, k3, k5, ho⟩ := runObj D.w
    obtain ⟨ob, hob, hobc⟩ := hheld.there
    refine wpAny_excMatches_sub_self ((b.kin.keeps st5) _ _ ho) hob hobc (by decide) (codeAny_handlers_suite ?_)
    refine lands_againW hheld fun h₆ hfl₆ hsm₆ => ?_
    have hsm : s'.heap.UpToSlots h₆ := (hsm₄.trans hsm₅).trans hsm₆
    have st6 : B'.StaysIn h₆ := fun a o e => hfl₆.1 _ _ (hs _ _ e)
    have S6 : St s.heap h₆ := fun a vs n e => st6 _ _ (htup a vs n e)
    refine wpAny_passesOwnAt (hX _) (pf_mono (σ₁ := less as σ) (s₁ := { s' with heap := h₆ }) ⟨S6, fun a o e n f => ⟨st6 _ _ (hin a o e f fun hm => ?_), ?_⟩⟩ (hexc _ _ ?_))
    · obtain ⟨o', ho'⟩ := has a hm; rw [n] at ho'; cases ho'
    · unfold less; split; rfl; exact n
    · refine ⟨fun a o e => st6 _ _ (hB _ _ e), fun a o e => ?_, fun a o e => ?_, fun p hp => ?_, G.nd, hgens, hos⟩
      · unfold less at e
        split at e
        · cases e
        · rename_i hm
          obtain ⟨ob, h1, h2⟩ := hkeep a o e hm
          exact (G.rel a o e).at S6 fun o' e' => by rw [h1] at e'; cases e'; exact st6 _ _ h2
      · unfold less at e
        split at e
        · cases e
        · exact G.fresh a o e
      · obtain ⟨h1, m, hm, hr⟩ := hfr p hp
        refine ⟨(G.frs p hp).1, ⟨m, hsm.ns hm, hr.st (.keeps fun a o e => hfl₆.1 _ _ e)⟩, ?_⟩
        unfold less; split; rfl; exact (G.frs p hp).2.2
  · obtain ⟨fl, l', σ', ⟨rfl, hK⟩, rf, g', t'⟩ := h₁
    cases rf
    have st1 : B'.StaysIn s₁.heap := g'.stays
    refine wpAny_execs_nil ⟨_, l', mix as σ' σ, hnorm _ _ hK, .next, ⟨fun a o e => st1 _ _ (hB _ _ e), fun a o e => ?_, fun a o e => ?_, fun p hp => ?_, g'.nd, g'.gens, g'.os⟩, ⟨fun a vs n e => st1 _ _ (htup a vs n e), fun a o e n f => ⟨st1 _ _ (hin a o e f fun hm => ?_), ?_⟩⟩⟩
    · unfold mix at e
      split at e
      · rename_i q; cases e; exact g'.rel a o q
      · split at e
        · cases e
        · rename_i hm
          obtain ⟨ob, h1, h2⟩ := hkeep a o e hm
          exact (G.rel a o e).at (fun a vs n e => st1 _ _ (htup a vs n e)) fun o' e' => by rw [h1] at e'; cases e'; exact st1 _ _ h2
    · unfold mix at e
      split at e
      · rename_i q; cases e
        have h1 : B'.get? a = none := g'.fresh a o q
        cases h2 : D.B.get? a with
        | none => rfl
        | some ob => rw [hB _ _ h2] at h1; cases h1
      · split at e
        · cases e
        · exact G.fresh a o e
    · obtain ⟨h1, h2, h3⟩ := g'.frs p hp
      have hps : p.1.locals ∈ fz ((env, l) :: stk) := by
        rcases List.mem_cons.mp hp with rfl | hp
        · exact .head _
        · exact .tail _ (List.mem_map_of_mem (f := fun p : Env × Loc => p.1.locals) hp)
      refine ⟨?_, h2, ?_⟩
      · cases q : D.B.get? p.1.locals with
        | none => rfl
        | some ob => have h1' : B'.get? p.1.locals = none := h1
                     rw [hB _ _ q] at h1'; cases h1'
      · unfold mix; rw [h3]; simp only; split; rfl; exact hfzσ _ hps
    · obtain ⟨o', ho'⟩ := has a hm; rw [n] at ho'; cases ho'
    · have hno' : a ∉ as := fun hm => by obtain ⟨o', ho'⟩ := has a hm; rw [n] at ho'; cases ho'
      have h1 : (only as σ) a = none := by unfold only; rw [if_neg hno']
      unfold mix
      rw [(t'.tr a o e h1 f).2]
      simp only
      rw [if_neg hno']
      exact n
end
section
variable {D : Wd} {A : Around} {stk : List (Env × Loc)} {env : Env} {l l' : Loc} {σ σ' : Sto} {s s' : Shared} {X : Value → Shared → Prop} {Q : V → Sto → Prop} {K : Fl → Loc → Sto → Prop} {T : Bool → Sto → Prop}
theorem ev_bone {op : BoolOp} {e : Expr} {p : Pos} (h : Ev D A stk env e σ X Q) : Ev D A stk env (.BoolOp op [e] p) σ X Q := fun s G => BoolOp_one (h s G)
theorem ev_and {e e' : Expr} {es : List Expr} {p : Pos} (h : Ev D A stk env e σ X fun v σ₁ => ∃ b, v = .bool b ∧ if b = true then Ev D A stk env (.BoolOp .And (e' :: es) p) σ₁ X Q else Q (.bool false) σ₁) :
    Ev D A stk env (.BoolOp .And (e :: e' :: es) p) σ X Q := fun s G => by
  refine BoolOp_and (wpAny_mono (h s G) (fun v s₁ h₁ => ?_) fun _ _ e => e)
  obtain ⟨_, σ₁, ⟨b, rfl, h1⟩, r1, g1, t1⟩ := h₁
  cases r1
  refine wpAny_truthy_bool ?_
  cases b with
  | false => exact ⟨_, σ₁, h1, .bool _, g1, t1⟩
  | true => exact pv_mono t1 (h1 s₁ g1)
theorem ev_or {e e' : Expr} {es : List Expr} {p : Pos} (h : Ev D A stk env e σ X fun v σ₁ => ∃ b, v = .bool b ∧ if b = true then Q (.bool true) σ₁ else Ev D A stk env (.BoolOp .Or (e' :: es) p) σ₁ X Q) :
    Ev D A stk env (.BoolOp .Or (e :: e' :: es) p) σ X Q := fun s G => by
  refine BoolOp_or (wpAny_mono (h s G) (fun v s₁ h₁ => ?_) fun _ _ e => e)
  obtain ⟨_, σ₁, ⟨b, rfl, h1⟩, r1, g1, t1⟩ := h₁
  cases r1
  refine wpAny_truthy_bool ?_
  cases b with
  | true => exact ⟨_, σ₁, h1, .bool _, g1, t1⟩
  | false => exact pv_mono t1 (h1 s₁ g1)
theorem not_any {M : Model} {E : Value → Shared → Prop} {v : Value} {R : Value → Shared → Prop} (h : wpAny M A (truthy v) (fun b s' => R (.bool (!b)) s') E s) : wpAny M A (unaryOp .Not v) R E s := by
  unfold unaryOp
  refine wpAny_holding ?_
  exact wpAny_bind (wpAny_mono h (fun _ _ x => wpAny_pure x) fun _ _ e => e)
/-- a test's value -/
theorem ev_not {e : Expr} {p : Pos} (h : Ev D A stk env e σ X fun v σ₁ => ∃ b, v = .bool b ∧ Q (.bool (!b)) σ₁) : Ev D A stk env (.UnaryOp .Not e p) σ X Q :=
  ev_un fun s G => wpAny_mono (h s G) (fun v s₁ h₁ => by
    obtain ⟨x, σ₁, ⟨b, hb, h1⟩, r1, g1, t1⟩ := h₁
    refine ⟨x, σ₁, ?_, r1, g1, t1⟩
    intro s₂ v₂ g2 r2
    subst hb
    cases r2
    exact not_any (wpAny_truthy_bool (pv h1 (.bool _) g2 (.refl _)))) fun _ _ e => e
theorem op_isub {a b : Int} (h : Q (.int (a - b)) σ) : Op2 D stk (inplaceOp .Sub) A (.int a) (.int b) σ X Q := fun s v u G r1 r2 => by
  cases r1; cases r2; exact isub_int (pv h (.int _ _) (G.tk _) (.refl _))
/-- a list of ints that the call was given -/
structure IntList (D : Wd) (a : Addr) (ns : List Int) : Prop where
  lst : ∃ vs : Array Value, D.B.IsList a vs ∧ IntsAre vs.toList ns
theorem repVs_of_ints {h : Heap} {ns : List Int} {vs : List Value} (i : IntsAre vs ns) : RepVs h (ns.map V.int) vs := by
  induction i with
  | nil => exact .nil
  | cons i t _ ih => exact .cons (.int _ _) ih
theorem cl_len_base {a : Addr} {ns : List Int} (hl : IntList D a ns) (hz : ns.length ≤ sizeLine) (h : Q (.int ns.length) σ) : Cl D A stk (.builtin "len") [.ref a] σ X Q := fun s vs G R => by
  obtain ⟨ws, ⟨o, ho, hc, n, hd⟩, hi⟩ := hl.lst
  have hn : ws.size = ns.length := by have := (repVs_of_ints (h := D.B) hi).length; simpa using this
  cases R with | cons r rs => cases rs; cases r
                              refine call_len_list (items := ws) ⟨o, G.stays _ _ ho, hc, n, hd⟩ (by rw [hn]; have := sizeLine_eq; omega) (pv (σ' := σ) (x := .int ns.length) h ?_ (G.tk _) (.refl _))
                              rw [hn]; exact .int _ _
theorem sl_list_base {ve ie : Expr} {a : Addr} {ns : List Int} {x y z : V} {lo hi st : Option Int} (hl : IntList D a ns) (px : PartV x lo) (py : PartV y hi) (pz : PartV z st) (h0 : st ≠ some 0) (hz : ns.length ≤ sizeLine)
    (h : ∀ b, σ b = none → Q (.ref b) (upd σ b (.lst (pick (ns.map V.int) lo hi st))))
    (hs : ∃ f : Addr → List Value, ∀ sl, subscripted ie false (.ref a) (.ref sl) = operate (f sl) (getItem (.ref a) (.ref sl)) := by exact ⟨_, fun sl => by with_unfolding_all rfl⟩) :
    Sl D A stk ve ie (.ref a) x y z σ X Q := fun s v sl vx vy vz G ra rx ry rz hS => by
  cases ra
  obtain ⟨ws, ⟨o, ho, hc, n, hd⟩, hi'⟩ := hl.lst
  have hr := repVs_of_ints (h := s.heap) hi'
  have hn : ws.size = ns.length := by have := (repVs_of_ints (h := D.B) hi').length; simpa using this
  have hl' : s.heap.IsList a ws := ⟨o, G.stays _ _ ho, hc, n, hd⟩
  obtain ⟨f, hf⟩ := hs
  obtain ⟨g, t, n⟩ := G.newList (hr.pick lo hi st)
  exact tail_any hl'.typeIs slot_list_getitem.lookup (wpAny_getItem_list_slice hl' hS (px.is rx) (py.is ry) (pz.is rz) h0 (pv (h _ n) (.ref _) g t) (by rw [hn]; exact hz)) (hf _)
/-- a token -/
abbrev tk (p : Int × Int) : V := .tup [.int p.1, .int p.2]
theorem lev_tk (p : Int × Int) : Lev 50 (tk p) := .tup fun x hx => by
  simp only [List.mem_cons, List.not_mem_nil, or_false] at hx
  rcases hx with rfl | rfl <;> exact .int _ _
theorem lev_tks (ts : List (Int × Int)) : ∀ x ∈ ts.map tk, Lev 50 x := fun x hx => by
  obtain ⟨p, _, rfl⟩ := List.mem_map.mp hx
  exact lev_tk p
theorem lev_ttk (ts : List (Int × Int)) : Lev 51 (.tup (ts.map tk)) := .tup (lev_tks ts)
theorem tk_inj {p q : Int × Int} : tk p = tk q ↔ p = q := by
  obtain ⟨a, b⟩ := p
  obtain ⟨c, d⟩ := q
  simp
theorem tks_inj {ps qs : List (Int × Int)} : ps.map tk = qs.map tk ↔ ps = qs := by
  constructor
  · intro h
    induction ps generalizing qs with
    | nil => cases qs with
      | nil => rfl
      | cons q qs => cases h
    | cons p ps ih => cases qs with
      | nil => cases h
      | cons q qs =>
        simp only [List.map_cons] at h
        injection h with h1 h2
        rw [tk_inj.mp h1, ih h2]
  · rintro rfl; rfl
theorem Ao.loc {n m : Nat} (a : Ao A ((env, l) :: stk) n) (h : m ≤ n := by omega) : Ao A ((env, l') :: stk) m := ⟨a.1, a.2, by have := a.3; omega, by have := a.4; omega⟩
theorem Ao.down {n m : Nat} (a : Ao A stk n) (h : m ≤ n := by omega) : Ao A stk m := ⟨a.1, a.2, by have := a.3; omega, by have := a.4; omega⟩
theorem ift {P R : Prop} (h : P) : if true = true then P else R := h
theorem iff' {P R : Prop} (h : R) : if false = true then P else R := h
def Sup (σ σ' : Sto) : Prop := ∀ a o, σ a = some o → σ' a = some o
theorem Sup.refl (σ : Sto) : Sup σ σ := fun _ _ e => e
theorem Sup.trans {a b c : Sto} (x : Sup a b) (y : Sup b c) : Sup a c := fun t o e => y t o (x t o e)
theorem Sup.new {a : Addr} {o : O} (h : σ a = none) : Sup σ (upd σ a o) := fun t o' e => by rw [upd_ne _ _ (fun q => by rw [q, h] at e; cases e)]; exact e
end
theorem fm_range {α : Type} (xs : List α) (a : Nat) : ∀ n, ((List.range n).map (a + ·)).filterMap (xs[·]?) = (xs.drop a).take n := by
  intro n
  induction n with
  | zero => simp
  | succ n ih =>
    rw [List.range_succ, List.map_append, List.filterMap_append, ih, List.take_add_one]
    simp only [List.map_cons, List.map_nil, List.filterMap_cons, List.filterMap_nil, List.getElem?_drop]
    cases xs[a + n]? <;> rfl
theorem pick_nat {α : Type} (xs : List α) (a b : Nat) : pick xs (some (a : Int)) (some (b : Int)) none = (xs.drop a).take (b - a) := by
  unfold pick sliceBounds
  simp only [Option.getD_none]
  have h1 : ¬ ((a : Int) < 0) := by omega
  have h2 : ¬ ((b : Int) < 0) := by omega
  have h3 : (1 : Int) > 0 := by omega
  simp only [h1, h2, h3, if_false, if_true]
  have e1 : max 0 (min (a : Int) (xs.length : Int)) = ((min a xs.length : Nat) : Int) := by omega
  have e2 : max 0 (min (b : Int) (xs.length : Int)) = ((min b xs.length : Nat) : Int) := by omega
  rw [e1, e2, sliceRange_one, fm_range]
  rcases Nat.le_total a xs.length with h | h
  · rw [Nat.min_eq_left h]
    rcases Nat.le_total b xs.length with h' | h'
    · rw [Nat.min_eq_left h']
    · rw [Nat.min_eq_right h', List.take_of_length_le (by rw [List.length_drop]; omega), List.take_of_length_le (by rw [List.length_drop]; omega)]
  · rw [Nat.min_eq_right h, List.drop_of_length_le (by omega), List.drop_of_length_le h]; simp
theorem pick_to {α : Type} (xs : List α) (b : Nat) : pick xs none (some (b : Int)) none = xs.take b := by
  have : pick xs none (some (b : Int)) none = pick xs (some ((0 : Nat) : Int)) (some (b : Int)) none := by
    unfold pick sliceBounds
    simp only [Option.getD_none]
    have h3 : (1 : Int) > 0 := by omega
    have e1 : max 0 (min (0 : Int) (xs.length : Int)) = 0 := by omega
    simp [h3, e1]
  rw [this, pick_nat]; simp
theorem pick_from {α : Type} (xs : List α) (a : Nat) : pick xs (some (a : Int)) none none = xs.drop a := by
  have : pick xs (some (a : Int)) none none = pick xs (some (a : Int)) (some (xs.length : Int)) none := by
    unfold pick sliceBounds
    simp only [Option.getD_none]
    have h3 : (1 : Int) > 0 := by omega
    have h2 : ¬ ((xs.length : Int) < 0) := by omega
    have e1 : max 0 (min (xs.length : Int) (xs.length : Int)) = xs.length := by omega
    simp only [h3, h2, if_true, if_false, e1]
  rw [this, pick_nat, List.take_of_length_le (by rw [List.length_drop]; omega)]
theorem pick_mid {α : Type} (xs : List α) (h : 2 ≤ xs.length) : pick xs (some 1) (some (-1)) none = (xs.drop 1).take (xs.length - 2) := by
  have : pick xs (some 1) (some (-1)) none = pick xs (some ((1 : Nat) : Int)) (some ((xs.length - 1 : Nat) : Int)) none := by
    unfold pick sliceBounds
    simp only [Option.getD_none]
    have h3 : (1 : Int) > 0 := by omega
    have h1 : ((-1 : Int) < 0) := by omega
    have h2 : ¬ (((xs.length - 1 : Nat) : Int) < 0) := by omega
    simp only [h3, h1, h2, if_true, if_false]
    have e1 : (-1 : Int) + xs.length = ((xs.length - 1 : Nat) : Int) := by omega
    rw [e1]
    rfl
  rw [this, pick_nat]
  congr 1
theorem fm_congr {α β : Type} {f g : α → Option β} : ∀ {l : List α}, (∀ x ∈ l, f x = g x) → l.filterMap f = l.filterMap g
  | [], _ => rfl
  | x :: l, h => by rw [List.filterMap_cons, List.filterMap_cons, h x (.head _), fm_congr fun y hy => h y (.tail _ hy)]
theorem pick_rev {α : Type} (xs : List α) : pick xs none none (some (-1)) = xs.reverse := by
  unfold pick sliceBounds
  simp only [Option.getD_some]
  have h3 : ¬ ((-1 : Int) > 0) := by omega
  simp only [h3, if_false]
  have e : sliceRange ((xs.length : Int) - 1) (-1) (-1) = (List.range xs.length).map fun (k : Nat) => ((xs.length : Int) - 1 + (-1) * (k : Int)).toNat := by
    unfold sliceRange
    simp only [h3, if_false]
    split
    · have : ((xs.length : Int) - 1 - (-1) - (-1) - 1) / (-(-1)) = (xs.length : Int) := by
        rw [show (-(-1) : Int) = 1 from rfl, Int.ediv_one]; omega
      rw [this]; rfl
    · have : xs.length = 0 := by omega
      simp [this]
  rw [e]
  have h1 := fm_range xs.reverse 0 xs.length
  rw [List.drop_zero, List.take_of_length_le (by simp)] at h1
  rw [← h1, List.filterMap_map, List.filterMap_map]
  apply fm_congr
  intro k hk
  have hk := List.mem_range.mp hk
  simp only [Function.comp]
  rw [List.getElem?_reverse (by omega)]
  congr 1
  omega
theorem cut_from {α : Type} (xs : List α) (a : Nat) : cut xs (some a) none = xs.drop a := by
  unfold cut
  simp only [Option.getD_some, Option.getD_none]
  rcases Nat.le_total a xs.length with h | h
  · rw [Nat.min_eq_left h, List.take_of_length_le (by rw [List.length_drop]; omega)]
  · rw [Nat.min_eq_right h, List.drop_of_length_le (by omega), List.drop_of_length_le h]; simp
theorem cut_to {α : Type} (xs : List α) (b : Nat) : cut xs none (some b) = xs.take b := by
  unfold cut
  simp only [Option.getD_some, Option.getD_none, Nat.zero_min, List.drop_zero, Nat.sub_zero]
  rcases Nat.le_total b xs.length with h | h
  · rw [Nat.min_eq_left h]
  · rw [Nat.min_eq_right h, List.take_of_length_le (by omega), List.take_of_length_le h]
theorem cut_mid {α : Type} (xs : List α) (a b : Nat) : cut xs (some a) (some b) = (xs.drop a).take (b - a) := by
  unfold cut
  simp only [Option.getD_some]
  rcases Nat.le_total a xs.length with h | h
  · rw [Nat.min_eq_left h]
    rcases Nat.le_total b xs.length with h' | h'
    · rw [Nat.min_eq_left h']
    · rw [Nat.min_eq_right h', List.take_of_length_le (by rw [List.length_drop]; omega), List.take_of_length_le (by rw [List.length_drop]; omega)]
  · rw [Nat.min_eq_right h, List.drop_of_length_le (by omega), List.drop_of_length_le h]; simp
def Sub (l' l : Loc) : Prop := ∀ x v, l'.lookup x = some v → l.lookup x = some v
theorem Sub.refl (l : Loc) : Sub l l := fun _ _ e => e
theorem Sub.nil {l : Loc} : Sub [] l := fun _ _ e => by simp at e
theorem Sub.cons {x : Str} {v : V} {l' l : Loc} (h : l.lookup x = some v) (s : Sub l' l) : Sub ((x, v) :: l') l := fun y w e => by
  rw [List.lookup_cons] at e
  by_cases q : (y == x) = true
  · rw [q] at e; cases e; rw [beq_iff_eq.mp q]; exact h
  · rw [Bool.not_eq_true] at q; rw [q] at e; exact s _ _ e
theorem Sub.head {p : Str × V} {l' l : Loc} (s : Sub l' l) : Sub (p :: l') (p :: l) := fun y w e => by
  obtain ⟨x, v⟩ := p
  rw [List.lookup_cons] at e ⊢
  by_cases q : (y == x) = true
  · rw [q] at e ⊢; exact e
  · rw [Bool.not_eq_true] at q; rw [q] at e ⊢; exact s _ _ e
theorem Sub.trans {a b c : Loc} (x : Sub a b) (y : Sub b c) : Sub a c := fun _ _ e => y _ _ (x _ _ e)
section
variable {D : Wd} {A : Around} {stk : List (Env × Loc)} {env : Env} {l l' : Loc} {σ σ' : Sto} {s s' : Shared} {X : Value → Shared → Prop} {Q : V → Sto → Prop} {K : Fl → Loc → Sto → Prop} {T : Bool → Sto → Prop}
theorem Gd.loc (G : Gd D ((env, l) :: stk) σ s) (h : Sub l' l) : Gd D ((env, l') :: stk) σ s := by
  refine ⟨G.stays, G.rel, G.fresh, fun p hp => ?_, G.nd, G.gens, G.os⟩
  rcases List.mem_cons.mp hp with rfl | hp
  · obtain ⟨h1, ⟨m, hm, hr⟩, h3⟩ := G.frs _ (.head _)
    exact ⟨h1, ⟨m, hm, fun x v e => hr x v (h x v e)⟩, h3⟩
  · exact G.frs p (.tail _ hp)
theorem exs_loc {sts : List Stmt} (h : Sub l' l) (k : Exs D A stk env sts l' σ X K) : Exs D A stk env sts l σ X K := fun s G => k s (G.loc h)
theorem nx_loc {sts : List Stmt} (h : Sub l' l) (k : Exs D A stk env sts l' σ X K) : Nx D A stk env sts X K .next l σ := nx_next (exs_loc h k)
theorem tv_loc {e : Expr} (h : Sub l' l) (k : ∀ s, Gd D ((env, l') :: stk) σ s → wpAny (Mo D) A (isTrue e env (eval e env)) (PB D ((env, l) :: stk) σ s T) X s) : Tv D A ((env, l) :: stk) env e σ X T := fun s G => k s (G.loc h)
theorem ex_loc {st : Stmt} (h : Sub l' l) (k : Ex D A stk env st l' σ X K) : Ex D A stk env st l σ X K := fun s G => k s (G.loc h)
/-- range's items -/
theorem rgI_cons {a : Int} {n : Nat} {y : V} {ys : List V} (h : rgI a n = y :: ys) : ∃ m, n = m + 1 ∧ y = .int a ∧ ys = rgI (a + 1) m := by
  cases n with
  | zero => simp [rgI] at h
  | succ m =>
    refine ⟨m, rfl, ?_⟩
    unfold rgI at h ⊢
    rw [List.range_succ_eq_map] at h
    simp only [List.map_cons, List.map_map] at h
    injection h with h1 h2
    refine ⟨by rw [← h1]; simp, ?_⟩
    rw [← h2]
    apply List.map_congr_left
    intro k _
    simp only [Function.comp]
    congr 1
    push_cast
    omega
theorem rgI_nil {a : Int} {n : Nat} (h : rgI a n = []) : n = 0 := by
  unfold rgI at h
  simpa using h
end
end Mine
open Mine
local macro_rules | `(tactic| walk_at "m1") => `(tactic| first
  | with_reducible refine exs_cons ?_
  | with_reducible refine exs_nil ?_
  | with_reducible refine nx_next ?_
  | with_reducible refine nx_ret ?_
  | with_reducible refine nx_brk ?_
  | with_reducible refine nx_cont ?_
  | with_reducible refine ex_if ?_
  | with_reducible refine ex_return ?_
  | ((with_reducible show Ex _ _ _ _ (Stmt.Assign [Expr.Name _ _] _ _) _ _ _ _); refine ex_assign ?_)
  | ((with_reducible show Ex _ _ _ _ (Stmt.Assign [Expr.Subscript _ _ _] _ _) _ _ _ _); refine ex_setitem ?_)
  | ((with_reducible show Ex _ _ _ _ (Stmt.AugAssign (Expr.Name _ _) _ _ _) _ _ _ _); refine ex_aug rfl ?_)
  | ((with_reducible show Ex _ _ _ _ (Stmt.Expr _ _) _ _ _ _); refine ex_expr ?_)
  | with_reducible refine ex_break ?_
  | with_reducible refine ex_continue ?_
  | ((with_reducible show As _ _ _ _ _ _ _ _ _ _); refine as_local ?_)
  | ((with_reducible show Tv _ _ _ _ (Expr.Compare _ [_] [_] _) _ _ _); refine tv_cmp ?_)
  | with_reducible refine tv_not ?_
  | with_reducible refine tv_and ?_
  | with_reducible refine tv_or ?_
  | with_reducible refine tv_and_nil ?_
  | with_reducible refine tv_or_nil ?_
  | ((with_reducible show Ev _ _ _ _ (Expr.Compare _ [_] [_] _) _ _ _); refine ev_cmp ?_)
  | ((with_reducible show Ev _ _ _ _ (Expr.Compare _ [_, _] [_, _] _) _ _ _); refine ev_chain ?_)
  | with_reducible refine ev_int ?_
  | with_reducible refine ev_str ?_
  | with_reducible refine ev_bool ?_
  | with_reducible refine ev_none ?_
  | ((with_reducible show Ev _ _ _ _ (Expr.Name (Str.ofString "int") _) _ _ _); refine ev_built (v := .type "int") (by assumption) (by rfl) (by rfl) ?_)
  | ((with_reducible show Ev _ _ _ _ (Expr.Name (Str.ofString "bool") _) _ _ _); refine ev_built (v := .type "bool") (by assumption) (by rfl) (by rfl) ?_)
  | ((with_reducible show Ev _ _ _ _ (Expr.Name (Str.ofString "tuple") _) _ _ _); refine ev_built (v := .type "tuple") (by assumption) (by rfl) (by rfl) ?_)
  | ((with_reducible show Ev _ _ _ _ (Expr.Name (Str.ofString "list") _) _ _ _); refine ev_built (v := .type "list") (by assumption) (by rfl) (by rfl) ?_)
  | ((with_reducible show Ev _ _ _ _ (Expr.Name _ _) _ _ _); first | refine ev_local rfl ?_ | refine ev_local ((by assumption : Sub _ _) _ _ rfl) ?_ | refine ev_free rfl (by assumption) ?_ | refine ev_cell rfl (by assumption) ?_ | refine ev_glob (by assumption) (by rfl) (.int _ _) ?_)
  | with_reducible refine ev_bin ?_
  | with_reducible refine ev_not ?_
  | with_reducible refine ev_un ?_
  | with_reducible refine ev_ite ?_
  | with_reducible refine ev_slice ?_
  | with_reducible refine ev_sub ?_
  | with_reducible refine evo_none ?_
  | with_reducible refine evo_some ?_
  | with_reducible refine ev_tuple ?_
  | with_reducible refine ev_list ?_
  | with_reducible refine sp_nil ?_
  | ((with_reducible show Sp _ _ _ _ _ (_ :: _) _ _ _); refine sp_cons ?_)
  | with_reducible refine op_add ?_
  | with_reducible refine op_sub ?_
  | with_reducible refine op_iadd ?_
  | with_reducible refine cm_eq_int ?_
  | with_reducible refine cm_ne_int ?_
  | with_reducible refine cm_lt_int ?_
  | with_reducible refine cm_le_int ?_
  | with_reducible refine cm_gt_int ?_
  | with_reducible refine cm_ge_int ?_
  | with_reducible refine op_isub ?_
  | with_reducible refine ev_and ?_
  | with_reducible refine ev_or ?_
  | with_reducible refine ev_bone ?_
  | ((with_reducible show Ev _ _ _ _ (Expr.Call (Expr.Name (Str.ofString "isinstance") _) _ [] _) _ _ _); refine ev_callB (f := .builtin "isinstance") (by assumption) (by rfl) (by rfl) (by intro a h; cases h) ?_)
  | ((with_reducible show Ev _ _ _ _ (Expr.Call (Expr.Name (Str.ofString "len") _) _ [] _) _ _ _); refine ev_callB (f := .builtin "len") (by assumption) (by rfl) (by rfl) (by intro a h; cases h) ?_)
  | ((with_reducible show Ev _ _ _ _ (Expr.Call (Expr.Name (Str.ofString "abs") _) _ [] _) _ _ _); refine ev_callB (f := .builtin "abs") (by assumption) (by rfl) (by rfl) (by intro a h; cases h) ?_)
  | ((with_reducible show Ev _ _ _ _ (Expr.Call (Expr.Name (Str.ofString "max") _) _ [] _) _ _ _); refine ev_callB (f := .builtin "max") (by assumption) (by rfl) (by rfl) (by intro a h; cases h) ?_)
  | ((with_reducible show Ev _ _ _ _ (Expr.Call (Expr.Name (Str.ofString "min") _) _ [] _) _ _ _); refine ev_callB (f := .builtin "min") (by assumption) (by rfl) (by rfl) (by intro a h; cases h) ?_)
  | ((with_reducible show Ev _ _ _ _ (Expr.Call (Expr.Name (Str.ofString "sum") _) _ [] _) _ _ _); refine ev_callB (f := .builtin "sum") (by assumption) (by rfl) (by rfl) (by intro a h; cases h) ?_)
  | ((with_reducible show Ev _ _ _ _ (Expr.Call (Expr.Name (Str.ofString "int") _) _ [] _) _ _ _); refine ev_callB (f := .type "int") (by assumption) (by rfl) (by rfl) (by intro a h; cases h) ?_)
  | ((with_reducible show Ev _ _ _ _ (Expr.Call (Expr.Name (Str.ofString "tuple") _) _ [] _) _ _ _); refine ev_callB (f := .type "tuple") (by assumption) (by rfl) (by rfl) (by intro a h; cases h) ?_)
  | ((with_reducible show Ev _ _ _ _ (Expr.Call (Expr.Name (Str.ofString "list") _) _ [] _) _ _ _); refine ev_callB (f := .type "list") (by assumption) (by rfl) (by rfl) (by intro a h; cases h) ?_)
  | ((with_reducible show Ev _ _ _ _ (Expr.Call (Expr.Name _ _) _ [] _) _ _ _); refine ev_callK (by assumption) (by rfl) (by kernel_rfl) ?_)
  | with_reducible refine lp_next ?_
  | with_reducible refine lp_cont ?_
  | with_reducible refine lp_brk ?_
  | with_reducible refine lp_ret ?_
  | ((with_reducible show Cl _ _ _ (Value.builtin "isinstance") [V.int _, _] _ _ _); first | refine cl_isi_int_int ?_ | refine cl_isi_int_bool ?_)
  | with_reducible refine cl_isi_tup_tup ?_
  | ((with_reducible show Ev _ _ _ _ (Expr.Call (Expr.Attribute _ _ _) _ [] _) _ _ _); first | refine ev_lmeth PySem.F.slot_list_append PySem.F.type_list_append ?_ | refine ev_lmeth PySem.F.slot_list_extend PySem.F.type_list_extend ?_ | refine ev_lmeth PySem.F.slot_list_pop PySem.F.type_list_pop ?_ | refine ev_lmeth PySem.F.slot_list_count PySem.F.type_list_count ?_)
  | ((with_reducible show ∃ b, V.bool _ = V.bool b ∧ _); refine ⟨_, rfl, ?_⟩)
  | ((with_reducible show (if (_ = true) then _ else _)); first | refine ift ?_ | refine iff' ?_)
  | ((with_reducible show Tv _ _ _ _ (Expr.Call _ _ _ _) _ _ _); refine tv_bool ?_)
  | ((with_reducible show Tv _ _ _ _ (Expr.Name _ _) _ _ _); refine tv_bool ?_)
  | ((with_reducible show Op2 _ _ (subscriptTail _ _) _ (V.tup (_ :: _)) (V.int _) _ _ _); refine sb_tup (by decide) (by decide) rfl rfl ?_)
  | ((with_reducible show Cl _ _ _ (Value.builtin "len") [V.tup (_ :: _)] _ _ _); refine cl_len_tup (by simp only [List.length_cons, List.length_nil]; decide) ?_)
  | with_reducible refine op_neg ?_
  | ((with_reducible show List.length (_ :: _) ≤ sizeLine ∧ _); refine ⟨by simp only [List.length_cons, List.length_nil]; decide, ?_⟩)
  | ((with_reducible show List.length [] ≤ sizeLine ∧ _); refine ⟨by simp only [List.length_cons, List.length_nil]; decide, ?_⟩))
namespace Mine
section
variable {D : Wd} {A : Around} {stk : List (Env × Loc)} {env : Env} {l l' : Loc} {σ σ' : Sto} {s s' : Shared} {X : Value → Shared → Prop} {Q : V → Sto → Prop}
theorem c_take {a : Addr} {w c m many : Int} (b : Bs D) (ao : Ao A stk 1) (hs : σ a = some (.lst [.int w, .int c, .int m])) (hw : 0 ≤ w) (hc : 0 ≤ c ∧ c ≤ 1000) (hm : 0 ≤ m ∧ m < 1000003)
    (hmany : 1 ≤ many ∧ many < 2 ^ 63) (h : ∀ r w' c', 0 ≤ r → r < many → 0 ≤ w' → 0 ≤ c' → c' ≤ c + 1 → Q (.int r) (upd σ a (.lst [.int w', .int c', .int m]))) :
    Cl D A stk (.ref 272) [.ref a, .int many] σ X Q := by
  refine cl_def (names := [Str.ofString "source", Str.ofString "many"]) (xs := [.ref a, .int many]) (ys := []) (ws := []) b ao rfl (by kernel_rfl) ?hb .nil ?hl ?body
  case hb =>
    intro s vs _ hv
    match vs, hv with
    | [x, y], _ => exact BindsTo.of_eq rfl
  case hl => rfl
  case body =>
    intro L hL A' hA ao'
    clear hA
    simp only [List.zip_cons_cons, List.zip_nil_right, List.append_nil, List.reverse_cons, List.reverse_nil, List.nil_append, List.cons_append] at ao' ⊢
    repeat walk_at "m1"
    refine sb_list hs (by decide) (by decide) rfl ?_
    repeat walk_at "m1"
    refine op_pow (by decide) (by decide) ?_
    repeat walk_at "m1"
    refine ifb (fun hx => ?_) (fun hx => ?_)
    · repeat walk_at "m1"
      refine sb_list hs (by decide) (by decide) rfl ?_
      repeat walk_at "m1"
      refine op_mod (by omega) ?_
      repeat walk_at "m1"
      refine sb_list hs (by decide) (by decide) rfl ?_
      repeat walk_at "m1"
      refine op_div (by omega) (by omega) ?_
      repeat walk_at "m1"
      refine ⟨_, _, _, rfl, rfl, hs, by decide, by decide, by simp, ?_⟩
      repeat walk_at "m1"
      exact h _ _ _ (Int.fmod_nonneg_of_pos _ (by omega)) (Int.fmod_lt_of_pos _ (by omega)) (Int.fdiv_nonneg hw (by omega)) hc.1 (by omega)
    · repeat walk_at "m1"
      refine sb_list hs (by decide) (by decide) rfl ?_
      repeat walk_at "m1"
      refine ⟨_, _, _, rfl, rfl, hs, by decide, by decide, by simp, ?_⟩
      have e : ([V.int w, V.int c, V.int m].set (Int.toNat 1) (V.int (c + 1))) = [V.int w, V.int (c + 1), V.int m] := rfl
      rw [e]
      repeat walk_at "m1"
      refine sb_list (upd_self _ _ _) (by decide) (by decide) rfl ?_
      repeat walk_at "m1"
      refine sb_list (upd_self _ _ _) (by decide) (by decide) rfl ?_
      repeat walk_at "m1"
      refine op_mul (mul_ok (by decide) (by decide)) ?_
      repeat walk_at "m1"
      refine op_pow (by decide) (pow_ok (by omega) (by omega) (by decide) (by decide)) ?_
      repeat walk_at "m1"
      refine op_mod (by decide) ?_
      generalize hmx : Int.fmod _ 2147483647 = mx
      have h0 : 0 ≤ mx := hmx ▸ Int.fmod_nonneg_of_pos _ (by decide)
      have h1 : mx < 2147483647 := hmx ▸ Int.fmod_lt_of_pos _ (by decide)
      repeat walk_at "m1"
      refine op_mul (mul_ok (by omega) (by omega)) ?_
      repeat walk_at "m1"
      refine op_mod (by decide) ?_
      repeat walk_at "m1"
      refine op_div (by decide) (by decide) ?_
      repeat walk_at "m1"
      refine op_mod (by omega) ?_
      repeat walk_at "m1"
      exact h _ _ _ (Int.fmod_nonneg_of_pos _ (by omega)) (Int.fmod_lt_of_pos _ (by omega)) hw (by omega) (by omega)
end
section
variable {D : Wd} {A : Around} {stk : List (Env × Loc)} {env : Env} {l l' : Loc} {σ σ' : Sto} {s s' : Shared} {X : Value → Shared → Prop} {Q : V → Sto → Prop}
theorem c_is_whole {v lo hi : Int} (b : Bs D) (ao : Ao A stk 1) (h : Q (.bool (decide (lo ≤ v) && decide (v ≤ hi))) σ) : Cl D A stk (.ref 97) [.int v, .int lo, .int hi] σ X Q := by
  refine cl_def (names := [Str.ofString "value", Str.ofString "low", Str.ofString "high"]) (xs := [.int v, .int lo, .int hi]) (ys := []) (ws := []) b ao rfl (by kernel_rfl) ?hb .nil ?hl ?body
  case hb =>
    intro s vs _ hv
    match vs, hv with
    | [x, y, z], _ => exact BindsTo.of_eq rfl
  case hl => rfl
  case body =>
    intro L hL A' hA ao'
    clear hA
    simp only [List.zip_cons_cons, List.zip_nil_right, List.append_nil, List.reverse_cons, List.reverse_nil, List.nil_append, List.cons_append] at ao' ⊢
    repeat walk_at "m1"
    refine ifb (fun h1 => ?_) (fun h1 => ?_)
    · repeat walk_at "m1"
      show Q (V.bool _) σ
      rw [h1] at h
      exact h
    · repeat walk_at "m1"
      show Q (V.bool _) σ
      rw [h1] at h
      exact h
abbrev lows : List V := [.int 0, .int 0, .int 0, .int 0, .int 0, .int 1, .int 0, .int 0, .int 0, .int 1, .int 0, .int 0, .int 0, .int 0, .int 0, .int 0]
abbrev highs : List V := [.int 1048575, .int 255, .int 255, .int 255, .int 255, .int 9, .int 255, .int 255, .int 255, .int 9, .int 255, .int 255, .int 255, .int 255, .int 255, .int 0]
theorem codes_low (b : Bs D) : RepV D.B (.tup lows) (.ref 110) :=
  .tup (b.kin _ _ rfl) (by repeat constructor)
theorem codes_high (b : Bs D) : RepV D.B (.tup highs) (.ref 111) :=
  .tup (b.kin _ _ rfl) (by repeat constructor)
/-- a letter or a brace -/
def Tok (p : Int × Int) : Prop := (p.1 = 11 ∨ p.1 = 1 ∨ p.1 = 2) ∧ 0 ≤ p.2 ∧ p.2 ≤ 255
theorem c_is_token {p : Int × Int} (b : Bs D) (ao : Ao A stk 2) (hp : Tok p) (h : Q (.bool true) σ) : Cl D A stk (.ref 118) [tk p] σ X Q := by
  refine cl_def (names := [Str.ofString "token"]) (xs := [tk p]) (ys := []) (ws := []) b ao rfl (by kernel_rfl) ?hb .nil ?hl ?body
  case hb =>
    intro s vs _ hv
    match vs, hv with
    | [x], _ => exact BindsTo.of_eq rfl
  case hl => rfl
  case body =>
    intro L hL A' hA ao'
    clear hA
    simp only [List.zip_cons_cons, List.zip_nil_right, List.append_nil, List.reverse_cons, List.reverse_nil, List.nil_append, List.cons_append] at ao' ⊢
    obtain ⟨k, c⟩ := p
    obtain ⟨hk, hc⟩ := hp
    simp only at hk hc
    obtain ⟨j, hj, hlo, hhi⟩ : ∃ j, seqIndex? k 16 = some j ∧ lows[j]? = some (.int 0) ∧ highs[j]? = some (.int 255) := by rcases hk with rfl | rfl | rfl <;> exact ⟨_, rfl, rfl, rfl⟩
    repeat walk_at "m1"
    refine c_is_whole b ao' ?_
    repeat walk_at "m1"
    rw [show (decide (0 ≤ k) && decide (k ≤ 15)) = true from by (rw [Bool.and_eq_true, decide_eq_true_eq, decide_eq_true_eq]; omega)]
    repeat walk_at "m1"
    refine ev_glob b (by rfl) (codes_low b) ?_
    repeat walk_at "m1"
    refine sb_tup (show -(2 ^ 63) ≤ k by omega) (show k < 2 ^ 63 by omega) hj hlo ?_
    repeat walk_at "m1"
    refine ev_glob b (by rfl) (codes_high b) ?_
    repeat walk_at "m1"
    refine sb_tup (show -(2 ^ 63) ≤ k by omega) (show k < 2 ^ 63 by omega) hj hhi ?_
    repeat walk_at "m1"
    refine c_is_whole b ao' ?_
    repeat walk_at "m1"
    rw [show (decide (0 ≤ c) && decide (c ≤ 255)) = true from by (rw [Bool.and_eq_true, decide_eq_true_eq, decide_eq_true_eq]; omega)]
    exact h
theorem c_check {a : Addr} {ts : List (Int × Int)} (b : Bs D) (ao : Ao A stk 3) (ha : σ a = some (.lst (ts.map tk))) (hp : ∀ p ∈ ts, Tok p) (h : Q .none σ) : Cl D A stk (.ref 125) [.ref a] σ X Q := by
  refine cl_def (names := [Str.ofString "tokens"]) (xs := [.ref a]) (ys := []) (ws := []) b ao rfl (by kernel_rfl) ?hb .nil ?hl ?body
  case hb =>
    intro s vs _ hv
    match vs, hv with
    | [x], _ => exact BindsTo.of_eq rfl
  case hl => rfl
  case body =>
    intro L hL A' hA ao'
    subst hA
    simp only [List.zip_cons_cons, List.zip_nil_right, List.append_nil, List.reverse_cons, List.reverse_nil, List.nil_append, List.cons_append] at ao' ⊢
    repeat walk_at "m1"
    refine ex_for_list ao'.handled ?_ PassesOwn.leaving
    repeat walk_at "m1"
    refine ⟨a, ts.map tk, rfl, fun ys l' σ' => σ' = σ ∧ ∃ us : List (Int × Int), ys = us.map tk ∧ ∀ p ∈ us, Tok p, ⟨rfl, ts, rfl, hp⟩, fun ys l σ' e => by rw [e.1]; exact ha, ?_, ?_⟩
    · rintro y ys l σ' ⟨rfl, us, hus, hu⟩
      cases us with
      | nil => cases hus
      | cons p us =>
        simp only [List.map_cons] at hus
        injection hus with h1 h2
        subst h1 h2
        repeat walk_at "m1"
        refine c_is_token b ao'.loc (hu p (.head _)) ?_
        repeat walk_at "m1"
        exact ⟨rfl, us, rfl, fun q hq => hu q (.tail _ hq)⟩
    · rintro l σ' ⟨rfl, _⟩
      repeat walk_at "m1"
      exact h
end
section
variable {D : Wd} {A : Around} {stk : List (Env × Loc)} {env : Env} {l l' : Loc} {σ σ' : Sto} {s s' : Shared} {X : Value → Shared → Prop} {Q : V → Sto → Prop}
theorem cs_feed (w : World) : Cs w 179 178 := ⟨⟨_,_,_,_,_,_,_,_,_,_,_,_,rfl⟩, by kernel_rfl, by rfl, by rfl, by rfl⟩
abbrev sRest := Str.ofString "rest"
abbrev sOuters := Str.ofString "outers"
/-- a feed with the rest of its tokens -/
structure Fd (σ : Sto) (f dx r : Addr) (ts : List (Int × Int)) : Prop where
  obj : σ f = some (.inst 179 dx)
  dict : σ dx = some (.dict [(sOuters, .tup []), (sRest, .ref r)])
  rest : σ r = some (.lst (ts.map tk).reverse)
theorem c_feed_init {x dx t : Addr} {ts : List (Int × Int)} (b : Bs D) (ao : Ao A stk 4) (ht : σ t = some (.lst (ts.map tk))) (hz : ts.length ≤ 1000) (hp : ∀ p ∈ ts, Tok p) (hx : σ x = some (.inst 179 dx)) (hd : σ dx = some (.dict []))
    (h : ∀ r σ', Sup (upd σ dx (.dict [(sOuters, .tup []), (sRest, .ref r)])) σ' → σ r = none → Fd σ' x dx r ts → Q .none σ') : Cl D A stk (.ref 141) [.ref x, .ref t] σ X Q := by
  refine cl_def (names := [Str.ofString "self", Str.ofString "tokens", Str.ofString "outers"]) (xs := [.ref x, .ref t]) (ys := [.tup []]) (ws := [.ref 133]) b ao rfl (by kernel_rfl) ?hb (.cons (.tup (b.kin _ _ rfl) .nil) .nil) ?hl ?body
  case hb =>
    intro s vs hst hv
    match vs, hv with
    | [x, y], _ => exact binds_K (b.kin.keeps hst) rfl rfl rfl rfl rfl
  case hl => rfl
  case body =>
    intro L hL A' hA ao'
    clear hA
    simp only [List.zip_cons_cons, List.zip_nil_right, List.append_nil, List.reverse_cons, List.reverse_nil, List.nil_append, List.cons_append] at ao' ⊢
    repeat walk_at "m1"
    refine c_check b ao' ht hp ?_
    repeat walk_at "m1"
    have hxd : x ≠ dx := fun q => by rw [q, hd] at hx; cases hx
    refine ex_setattr b (cs_feed _) (by rfl) (by rw [typeLookup_type, builtinLookup_eq_fast]; kernel_rfl) ?_
    repeat walk_at "m1"
    refine cl_list_list ht (by have : sizeLine ≥ 1000 := by decide
                               simp only [List.length_map]; omega) (fun b₁ hb₁ => ?_)
    repeat walk_at "m1"
    refine sl_list (upd_self _ _ _) .none .none (.int _) (by decide) (by have : sizeLine ≥ 1000 := by decide
                                                                         simp only [List.length_map]; omega) (fun r hr => ?_)
    rw [pick_rev]
    repeat walk_at "m1"
    have hr1 : r ≠ b₁ := fun q => by rw [q, upd_self] at hr; cases hr
    have hr0 : σ r = none := by rw [upd_ne _ _ hr1] at hr; exact hr
    have hxr : x ≠ r := fun q => by rw [q, hr0] at hx; cases hx
    have hdr : dx ≠ r := fun q => by rw [q, hr0] at hd; cases hd
    have hxb : x ≠ b₁ := fun q => by rw [q, hb₁] at hx; cases hx
    have hdb : dx ≠ b₁ := fun q => by rw [q, hb₁] at hd; cases hd
    refine ⟨x, dx, [], rfl, ?_, ?_, by simp, ?_⟩
    · rw [upd_ne _ _ hxr, upd_ne _ _ hxb]; exact hx
    · rw [upd_ne _ _ hdr, upd_ne _ _ hdb]; exact hd
    repeat walk_at "m1"
    refine ex_setattr b (cs_feed _) (by rfl) (by rw [typeLookup_type, builtinLookup_eq_fast]; kernel_rfl) ?_
    repeat walk_at "m1"
    refine cl_tuple_tup ?_
    repeat walk_at "m1"
    refine ⟨x, dx, _, rfl, ?_, upd_self _ _ _, by simp, ?_⟩
    · rw [upd_ne _ _ hxd, upd_ne _ _ hxr, upd_ne _ _ hxb]; exact hx
    repeat walk_at "m1"
    rw [upd_upd]
    refine h r _ (fun a o e => ?_) hr0 ⟨?_, upd_self _ _ _, ?_⟩
    · by_cases q : a = dx
      · subst q; rw [upd_self] at e ⊢; exact e
      · rw [upd_ne _ _ q] at e ⊢
        rw [upd_ne _ _ (fun z => by rw [z, hr0] at e; cases e), upd_ne _ _ (fun z => by rw [z, hb₁] at e; cases e)]; exact e
    · rw [upd_ne _ _ hxd, upd_ne _ _ hxr, upd_ne _ _ hxb]; exact hx
    · rw [upd_ne _ _ hdr.symm, upd_self]
end
section
variable {D : Wd} {A : Around} {stk : List (Env × Loc)} {env : Env} {l l' : Loc} {σ σ' : Sto} {s s' : Shared} {X : Value → Shared → Prop} {Q : V → Sto → Prop}
theorem c_feed {t : Addr} {ts : List (Int × Int)} (b : Bs D) (ao : Ao A stk 5) (ht : σ t = some (.lst (ts.map tk))) (hz : ts.length ≤ 1000) (hp : ∀ p ∈ ts, Tok p)
    (h : ∀ f dx r σ', Sup σ σ' → σ f = none → σ dx = none → σ r = none → Fd σ' f dx r ts → Q (.ref f) σ') : Cl D A stk (.ref 179) [.ref t] σ X Q := by
  refine cl_new b ao (cs_feed _) (by rfl) ⟨_, rfl, rfl⟩ (fun x dx A' hx hd hne ao' => ?_)
  have htx : t ≠ x := fun q => by rw [q, hx] at ht; cases ht
  have htd : t ≠ dx := fun q => by rw [q, hd] at ht; cases ht
  refine c_feed_init b ao' (by rw [upd_ne _ _ htx, upd_ne _ _ htd]; exact ht) hz hp (upd_self _ _ _) (by rw [upd_ne _ _ hne.symm, upd_self]) (fun r σ' hs hr hF => ⟨rfl, h x dx r σ' (fun a o e => hs a o ?_) hx hd ?_ hF⟩)
  · have h1 : a ≠ x := fun q => by rw [q, hx] at e; cases e
    have h2 : a ≠ dx := fun q => by rw [q, hd] at e; cases e
    rw [upd_ne _ _ h2, upd_ne _ _ h1, upd_ne _ _ h2]; exact e
  · have h1 : r ≠ x := fun q => by rw [q, upd_self] at hr; cases hr
    rw [upd_ne _ _ h1] at hr
    have h2 : r ≠ dx := fun q => by rw [q, upd_self] at hr; cases hr
    rw [upd_ne _ _ h2] at hr; exact hr
theorem tl_rest : typeLookup (.type "object") sRest = pure none := by rw [typeLookup_type, builtinLookup_eq_fast]; kernel_rfl
theorem tl_outers : typeLookup (.type "object") sOuters = pure none := by rw [typeLookup_type, builtinLookup_eq_fast]; kernel_rfl
theorem size_le {α : Type} {xs : List α} (h : xs.length ≤ 1000) : xs.length ≤ sizeLine := Nat.le_trans h (by decide)
theorem Fd.pop {f dx r : Addr} {y : Int × Int} {ts : List (Int × Int)} (F : Fd σ f dx r (y :: ts)) : Fd (upd σ r (.lst (ts.map tk).reverse)) f dx r ts := by
  have h1 : f ≠ r := fun q => by have := F.obj; rw [q, F.rest] at this; cases this
  have h2 : dx ≠ r := fun q => by have := F.dict; rw [q, F.rest] at this; cases this
  exact ⟨by rw [upd_ne _ _ h1]; exact F.obj, by rw [upd_ne _ _ h2]; exact F.dict, upd_self _ _ _⟩
theorem c_next {f dx r : Addr} {ts : List (Int × Int)} (b : Bs D) (ao : Ao A stk 1) (F : Fd σ f dx r ts) (hz : ts.length ≤ 1000) (h0 : ts = [] → Q .none σ)
    (h1 : ∀ y ys, ts = y :: ys → Q (tk y) (upd σ r (.lst (ys.map tk).reverse))) : Cl D A stk (.ref 148) [.ref f] σ X Q := by
  refine cl_def (names := [Str.ofString "self"]) (xs := [.ref f]) (ys := []) (ws := []) b ao rfl (by kernel_rfl) ?hb .nil ?hl ?body
  case hb =>
    intro s vs _ hv
    match vs, hv with
    | [x], _ => exact BindsTo.of_eq rfl
  case hl => rfl
  case body =>
    intro L hL A' hA ao'
    clear hA
    simp only [List.zip_cons_cons, List.zip_nil_right, List.append_nil, List.reverse_cons, List.reverse_nil, List.nil_append, List.cons_append] at ao' ⊢
    repeat walk_at "m1"
    refine ev_attr b (cs_feed _) (by rfl) tl_rest ?_
    repeat walk_at "m1"
    refine ⟨f, dx, _, _, rfl, F.obj, F.dict, rfl, (by intro c q; cases q), ?_⟩
    repeat walk_at "m1"
    refine cl_len_list F.rest (size_le (by simpa using hz)) ?_
    repeat walk_at "m1"
    cases ts with
    | nil =>
      repeat walk_at "m1"
      exact h0 rfl
    | cons y ys =>
      refine ifb (fun hx => by simp at hx; omega) (fun hx => ?_)
      repeat walk_at "m1"
      refine ev_attr b (cs_feed _) (by rfl) tl_rest ?_
      repeat walk_at "m1"
      refine ⟨f, dx, _, _, rfl, F.obj, F.dict, rfl, (by intro c q; cases q), ?_⟩
      have hr := F.rest
      simp only [List.map_cons, List.reverse_cons] at hr
      refine ⟨r, _, rfl, hr, ?_⟩
      repeat walk_at "m1"
      refine cl_pop hr (Nat.lt_of_lt_of_le (m := 1001) (by simp at hz ⊢; omega) (by decide)) ?_
      repeat walk_at "m1"
      exact h1 y ys rfl
theorem c_left {f dx r : Addr} {ts : List (Int × Int)} (b : Bs D) (ao : Ao A stk 1) (F : Fd σ f dx r ts) (hz : ts.length ≤ 1000) (h : ∀ a, σ a = none → Q (.ref a) (upd σ a (.lst (ts.map tk)))) : Cl D A stk (.ref 169) [.ref f] σ X Q := by
  refine cl_def (names := [Str.ofString "self"]) (xs := [.ref f]) (ys := []) (ws := []) b ao rfl (by kernel_rfl) ?hb .nil ?hl ?body
  case hb =>
    intro s vs _ hv
    match vs, hv with
    | [x], _ => exact BindsTo.of_eq rfl
  case hl => rfl
  case body =>
    intro L hL A' hA ao'
    clear hA
    simp only [List.zip_cons_cons, List.zip_nil_right, List.append_nil, List.reverse_cons, List.reverse_nil, List.nil_append, List.cons_append] at ao' ⊢
    repeat walk_at "m1"
    refine ev_attr b (cs_feed _) (by rfl) tl_rest ?_
    repeat walk_at "m1"
    refine ⟨f, dx, _, _, rfl, F.obj, F.dict, rfl, (by intro c q; cases q), ?_⟩
    repeat walk_at "m1"
    refine sl_list F.rest .none .none (.int _) (by decide) (size_le (by simpa using hz)) (fun r hr => ?_)
    rw [pick_rev, List.reverse_reverse]
    repeat walk_at "m1"
    exact h r hr
theorem c_is_outer {f dx r : Addr} {x : V} {ts : List (Int × Int)} (b : Bs D) (ao : Ao A stk 1) (F : Fd σ f dx r ts) (h : Q (.bool false) σ) : Cl D A stk (.ref 176) [.ref f, x] σ X Q := by
  refine cl_def (names := [Str.ofString "self", Str.ofString "token"]) (xs := [.ref f, x]) (ys := []) (ws := []) b ao rfl (by kernel_rfl) ?hb .nil ?hl ?body
  case hb =>
    intro s vs _ hv
    match vs, hv with
    | [x, y], _ => exact BindsTo.of_eq rfl
  case hl => rfl
  case body =>
    intro L hL A' hA ao'
    clear hA
    simp only [List.zip_cons_cons, List.zip_nil_right, List.append_nil, List.reverse_cons, List.reverse_nil, List.nil_append, List.cons_append] at ao' ⊢
    repeat walk_at "m1"
    refine ev_attr b (cs_feed _) (by rfl) tl_outers ?_
    repeat walk_at "m1"
    refine ⟨f, dx, _, _, rfl, F.obj, F.dict, rfl, (by intro c q; cases q), ?_⟩
    refine cm_in_nil ?_
    repeat walk_at "m1"
    exact h
end
section
variable {D : Wd} {A : Around} {stk : List (Env × Loc)} {env : Env} {l l' : Loc} {σ σ' : Sto} {s s' : Shared} {X : Value → Shared → Prop} {Q : V → Sto → Prop}
theorem c_wanted {f dx r : Addr} {ts : List (Int × Int)} (b : Bs D) (ao : Ao A stk 3) (F : Fd σ f dx r ts) (hz : ts.length ≤ 1000) (hX : ts = [] → ∀ v s', Fy D A stk v s' → X v s')
    (h : ∀ y ys, ts = y :: ys → Fd (upd σ r (.lst (ys.map tk).reverse)) f dx r ys → Q (tk y) (upd σ r (.lst (ys.map tk).reverse))) : Cl D A stk (.ref 225) [.ref f] σ X Q := by
  refine cl_def (names := [Str.ofString "feed"]) (xs := [.ref f]) (ys := []) (ws := []) b ao rfl (by kernel_rfl) ?hb .nil ?hl ?body
  case hb =>
    intro s vs _ hv
    match vs, hv with
    | [x], _ => exact BindsTo.of_eq rfl
  case hl => rfl
  case body =>
    intro L hL A' hA ao'
    subst hA
    simp only [List.zip_cons_cons, List.zip_nil_right, List.append_nil, List.reverse_cons, List.reverse_nil, List.nil_append, List.cons_append] at ao' ⊢
    repeat walk_at "m1"
    refine ev_imeth b (cs_feed _) (by rfl) ⟨_, rfl, rfl⟩ (by kernel_rfl) (y := none) (by rw [typeLookup_type, builtinLookup_eq_fast]; kernel_rfl) ?_
    repeat walk_at "m1"
    refine ⟨f, dx, _, rfl, F.obj, F.dict, rfl, ?_⟩
    repeat walk_at "m1"
    refine c_next b ao'.down F hz (fun e => ?_) (fun y ys e => ?_)
    · repeat walk_at "m1"
      refine cm_is_none (fun b hb _ => ?_) (by intro v q; cases q)
      have : b = true := hb.mpr rfl
      subst this
      repeat walk_at "m1"
      refine ex_raise b ao'.handled ?_ (fun v s' hr => raw_leave ao rfl rfl hr (hX e))
      repeat walk_at "m1"
      refine cl_runaway b ao'.loc (fun e' t he => ?_)
      exact ⟨e', t, rfl, upd_self _ _ _⟩
    · subst e
      have F' := F.pop
      repeat walk_at "m1"
      refine cm_is_none (fun b hb _ => ?_) (by intro v q; cases q)
      have : b = false := by cases b with
        | false => rfl
        | true => exact absurd (hb.mp rfl) (by simp)
      subst this
      repeat walk_at "m1"
      refine ev_imeth b (cs_feed _) (by rfl) ⟨_, rfl, rfl⟩ (by kernel_rfl) (y := none) (by rw [typeLookup_type, builtinLookup_eq_fast]; kernel_rfl) ?_
      repeat walk_at "m1"
      refine ⟨f, dx, _, rfl, F'.obj, F'.dict, rfl, ?_⟩
      repeat walk_at "m1"
      refine c_is_outer b ao'.loc F' ?_
      repeat walk_at "m1"
      exact h y ys rfl F'
theorem c_check_par {t par : Int × Int} (b : Bs D) (ao : Ao A stk 1) (hp : t ≠ par) (h : Q .none σ) : Cl D A stk (.ref 239) [tk t, tk par, .bool false] σ X Q := by
  refine cl_def (names := [Str.ofString "token", Str.ofString "par", Str.ofString "is_long"]) (xs := [tk t, tk par, .bool false]) (ys := []) (ws := []) b ao rfl (by kernel_rfl) ?hb .nil ?hl ?body
  case hb =>
    intro s vs _ hv
    match vs, hv with
    | [x, y, z], _ => exact BindsTo.of_eq rfl
  case hl => rfl
  case body =>
    intro L hL A' hA ao'
    clear hA
    simp only [List.zip_cons_cons, List.zip_nil_right, List.append_nil, List.reverse_cons, List.reverse_nil, List.nil_append, List.cons_append] at ao' ⊢
    repeat walk_at "m1"
    refine cm_eq (by have := ao'.units; omega) (lev_tk t) (lev_tk par) (by decide) (fun b hb => ?_)
    have : b = false := by cases b with
      | false => rfl
      | true => exact absurd (tk_inj.mp (hb.mp rfl)) hp
    subst this
    repeat walk_at "m1"
    exact h
end
section
variable {D : Wd} {A : Around} {stk : List (Env × Loc)} {env : Env} {l l' : Loc} {σ σ' : Sto} {s s' : Shared} {X : Value → Shared → Prop} {Q : V → Sto → Prop}
/-- the delimiter slid on by s places still fits -/
def okS (d : List (Int × Int)) (m : Nat) (t : Int × Int) (s : Nat) : Prop := (d.drop s).take (m - s) = d.take (m - s) ∧ d[m - s]? = some t
theorem c_slid {d : List (Int × Int)} {m : Nat} {t : Int × Int} (b : Bs D) (ao : Ao A stk 1) (hm : m < d.length) (hz : d.length ≤ 1000)
    (h1 : ∀ s, 1 ≤ s → s ≤ m → okS d m t s → (∀ s', 1 ≤ s' → s' < s → ¬ okS d m t s') → Q (.tup [.int (s : Nat), .int ((m - s + 1 : Nat) : Int)]) σ)
    (h2 : (∀ s, 1 ≤ s → s ≤ m → ¬ okS d m t s) → Q (.tup [.int m, .int 0]) σ) : Cl D A stk (.ref 232) [.tup (d.map tk), .int m, tk t] σ X Q := by
  refine cl_def (names := [Str.ofString "delimiter", Str.ofString "matched", Str.ofString "token"]) (xs := [.tup (d.map tk), .int m, tk t]) (ys := []) (ws := []) b ao rfl (by kernel_rfl) ?hb .nil ?hl ?body
  case hb =>
    intro s vs _ hv
    match vs, hv with
    | [x, y, z], _ => exact BindsTo.of_eq rfl
  case hl => rfl
  case body =>
    intro L hL A' hA ao'
    subst hA
    simp only [List.zip_cons_cons, List.zip_nil_right, List.append_nil, List.reverse_cons, List.reverse_nil, List.nil_append, List.cons_append] at ao' ⊢
    generalize hfix : [(Str.ofString "token", tk t), (Str.ofString "matched", V.int (m : Int)), (Str.ofString "delimiter", V.tup (d.map tk))] = fix at ao' ⊢
    repeat walk_at "m1"
    refine ex_for_range b ao'.handled ?_ PassesOwn.leaving (by rfl)
    subst hfix
    repeat walk_at "m1"
    refine ⟨1, (m : Int) + 1, .inl rfl, by omega, by omega, by omega, by omega, fun ys l σ' => σ' = σ ∧ Sub [(Str.ofString "token", tk t), (Str.ofString "matched", V.int (m : Int)), (Str.ofString "delimiter", V.tup (d.map tk))] l ∧ ∃ k, k ≤ m ∧ ys = rgI (1 + (k : Int)) (m - k) ∧ ∀ s, 1 ≤ s → s ≤ k → ¬ okS d m t s, ⟨rfl, .refl _, 0, Nat.zero_le _, ?_, fun s h1 h2 => by omega⟩, ?_, ?_⟩
    · congr 1; omega
    · rintro y ys l σ' ⟨rfl, hS, k, hk, hys, hno⟩
      obtain ⟨n, hn, rfl, rfl⟩ := rgI_cons hys.symm
      refine exs_loc (.head hS) ?_
      have ek : (1 + (k : Int)) = ((k + 1 : Nat) : Int) := by push_cast; omega
      rw [ek] at hys ⊢
      have hkm : k + 1 ≤ m := by omega
      repeat walk_at "m1"
      refine sl_tup (.int _) (.int _) (size_le (by simpa using hz)) ?_
      rw [cut_mid]
      rw [show (m : Int) - ((k + 1 : Nat) : Int) = ((m - (k + 1) : Nat) : Int) by omega]
      repeat walk_at "m1"
      refine sl_tup .none (.int _) (size_le (by simpa using hz)) ?_
      rw [cut_to, ← List.map_drop, ← List.map_take, ← List.map_take]
      refine cm_eq (by have := ao'.units; omega) (lev_ttk _) (lev_ttk _) (by decide) (fun c hc => ?_)
      have hc' : c = true ↔ (d.drop (k + 1)).take (m - (k + 1)) = d.take (m - (k + 1)) := by
        rw [hc, V.tup.injEq, tks_inj]
      have next : ¬ okS d m t (k + 1) → ∃ k', k' ≤ m ∧ rgI (((k + 1 : Nat) : Int) + 1) n = rgI (1 + (k' : Int)) (m - k') ∧ ∀ s, 1 ≤ s → s ≤ k' → ¬ okS d m t s := fun hno' => by
        refine ⟨k + 1, hkm, ?_, fun s hs1 hs2 => ?_⟩
        · congr 1
          · omega
          · omega
        · by_cases q : s = k + 1
          · rw [q]; exact hno'
          · exact hno s hs1 (by omega)
      refine ifb (fun hx => ?_) (fun hx => ?_)
      · subst hx
        repeat walk_at "m1"
        have hlt : m - (k + 1) < d.length := by omega
        refine sb_tup (j := m - (k + 1)) (x := tk d[m - (k + 1)]) (by omega) (by omega) ?_ (by rw [List.getElem?_map, List.getElem?_eq_getElem hlt]; rfl) ?_
        · unfold seqIndex?
          simp; omega
        refine cm_eq (by have := ao'.units; omega) (lev_tk _) (lev_tk _) (by decide) (fun c hc2 => ?_)
        have hd : c = true ↔ d[m - (k + 1)]? = some t := by
          rw [hc2, tk_inj, List.getElem?_eq_getElem hlt, Option.some.injEq]
          exact ⟨fun e => e.symm, fun e => e.symm⟩
        refine ifb (fun hx => ?_) (fun hx => ?_)
        · subst hx
          repeat walk_at "m1"
          have := h1 (k + 1) (by omega) hkm ⟨hc'.mp rfl, hd.mp rfl⟩ (fun s' hs1 hs2 => hno s' hs1 (by omega))
          rw [show (((m - (k + 1) + 1 : Nat) : Int)) = ((m - (k + 1) : Nat) : Int) + 1 by push_cast; rfl] at this
          exact this
        · subst hx
          repeat walk_at "m1"
          exact ⟨rfl, .cons rfl (.cons rfl (.cons rfl .nil)), next fun ⟨_, q⟩ => by have := hd.mpr q; cases this⟩
      · subst hx
        repeat walk_at "m1"
        exact ⟨rfl, .cons rfl (.cons rfl (.cons rfl .nil)), next fun ⟨q, _⟩ => by have := hc'.mpr q; cases this⟩
    · rintro l σ' ⟨rfl, hS, k, hk, hys, hno⟩
      have hn := rgI_nil hys.symm
      refine nx_loc hS ?_
      repeat walk_at "m1"
      exact h2 fun s hs hs' => hno s hs (by omega)
end
section
variable {D : Wd} {A : Around} {stk : List (Env × Loc)} {env : Env} {l l' : Loc} {σ σ' : Sto} {s s' : Shared} {X : Value → Shared → Prop} {Q : V → Sto → Prop}
abbrev Tks := List (Int × Int)
/-- the rest of a group, and what follows it -/
def grp : Nat → Tks → Option (Tks × Tks)
  | 0, ts => some ([], ts)
  | _ + 1, [] => none
  | n + 1, t :: ts => (grp (if t.1 = 1 then n + 2 else if t.1 = 2 then n else n + 1) ts).map fun p => (t :: p.1, p.2)
theorem upd_swap {a r : Addr} {x y z : O} (h : a ≠ r) : upd (upd (upd σ a x) r y) a z = upd (upd σ a z) r y := by
  rw [upd_comm _ _ _ h.symm, upd_upd]
theorem c_group {f dx r : Addr} {ts : Tks} {first par : Int × Int} (b : Bs D) (ao : Ao A stk 4) (F : Fd σ f dx r ts) (hz : ts.length ≤ 500) (hpar : ∀ t ∈ ts, t ≠ par) (hX : grp 1 ts = none → ∀ v s', Fy D A stk v s' → X v s')
    (h : ∀ u rest a, grp 1 ts = some (u, rest) → σ a = none → Q (.ref a) (upd (upd σ a (.lst ((first :: u).map tk))) r (.lst (rest.map tk).reverse))) : Cl D A stk (.ref 246) [.ref f, tk first, tk par, .bool false] σ X Q := by
  refine cl_def (names := [Str.ofString "feed", Str.ofString "first", Str.ofString "par", Str.ofString "is_long"]) (xs := [.ref f, tk first, tk par, .bool false]) (ys := []) (ws := []) b ao rfl (by kernel_rfl) ?hb .nil ?hl ?body
  case hb =>
    intro s vs _ hv
    match vs, hv with
    | [x, y, z, w], _ => exact BindsTo.of_eq rfl
  case hl => rfl
  case body =>
    intro L hL A' hA ao'
    subst hA
    simp only [List.zip_cons_cons, List.zip_nil_right, List.append_nil, List.reverse_cons, List.reverse_nil, List.nil_append, List.cons_append] at ao' ⊢
    repeat walk_at "m1"
    intro a ha
    repeat walk_at "m1"
    have har : a ≠ r := fun q => by rw [q, F.rest] at ha; cases ha
    have hF : ∀ (u : Tks) (ts' : Tks), Fd (upd (upd σ a (.lst ((first :: u).map tk))) r (.lst (ts'.map tk).reverse)) f dx r ts' := fun u ts' => by
      have h1 : f ≠ r := fun q => by have := F.obj; rw [q, F.rest] at this; cases this
      have h2 : dx ≠ r := fun q => by have := F.dict; rw [q, F.rest] at this; cases this
      have h3 : f ≠ a := fun q => by have := F.obj; rw [q, ha] at this; cases this
      have h4 : dx ≠ a := fun q => by have := F.dict; rw [q, ha] at this; cases this
      exact ⟨by rw [upd_ne _ _ h1, upd_ne _ _ h3]; exact F.obj, by rw [upd_ne _ _ h2, upd_ne _ _ h4]; exact F.dict, upd_self _ _ _⟩
    refine ex_while (fun n l σ' => ∃ (ts' : Tks) (u : Tks) (dep : Nat), n = ts'.length ∧ σ' = upd (upd σ a (.lst ((first :: u).map tk))) r (.lst (ts'.map tk).reverse) ∧ ts'.length ≤ 500 ∧ u.length + ts'.length ≤ 500 ∧ (∀ t ∈ ts', t ≠ par) ∧ grp 1 ts = (grp dep ts').map (fun p => (u ++ p.1, p.2)) ∧
      Sub [(Str.ofString "depth", V.int (dep : Int)), (Str.ofString "found", .ref a), (Str.ofString "is_long", .bool false), (Str.ofString "par", tk par), (Str.ofString "feed", .ref f)] l) ts.length ⟨ts, [], 1, rfl, ?_, hz, by simpa using hz, hpar, ?_, ?_⟩ ?_ PassesOwn.leaving
    · rw [upd_same (σ := upd _ _ _)]
      · rfl
      · rw [upd_ne _ _ har.symm]; exact F.rest
    · cases grp 1 ts with
      | none => rfl
      | some p => rfl
    · exact .cons rfl (.cons rfl (.cons rfl (.cons rfl (.cons rfl .nil))))
    · rintro n l σ' ⟨ts', u, dep, rfl, rfl, hz', hzu, hpar', hg, hS⟩
      repeat walk_at "m1"
      refine ifb (fun hx => ?_) (fun hx => ?_)
      · obtain ⟨dep', rfl⟩ : ∃ d, dep = d + 1 := ⟨dep - 1, by simp at hx; omega⟩
        refine exs_loc hS ?_
        repeat walk_at "m1"
        refine c_wanted b ao'.loc (hF u ts') (by omega) (fun e v s' hy => fly_leave rfl hy (hX (by rw [hg, e]; rfl))) (fun y ys e F' => ?_)
        subst e
        rw [upd_upd]
        repeat walk_at "m1"
        refine c_check_par b ao'.loc (hpar' y (.head _)) ?_
        repeat walk_at "m1"
        refine ifb (fun hy => ?_) (fun hy => ?_)
        · have hy1 : y.1 = 1 := by simpa using hy
          repeat walk_at "m1"
          refine ⟨a, _, rfl, (by rw [upd_ne _ _ har, upd_self]), ?_⟩
          repeat walk_at "m1"
          refine cl_append (by rw [upd_ne _ _ har, upd_self]) (size_le (by simp at hzu ⊢; omega)) ?_
          rw [upd_swap har]
          repeat walk_at "m1"
          refine ⟨ys.length, by simp, ys, u ++ [y], dep' + 2, rfl, ?_, by simp at hz'; omega, by simp at hzu ⊢; omega, fun t ht => hpar' t (.tail _ ht), ?_, .cons (congrArg (fun i => some (V.int i)) (by push_cast; omega)) (.cons rfl (.cons rfl (.cons rfl (.cons rfl .nil))))⟩
          · simp
          · rw [hg]
            simp only [grp, hy1, if_true]
            cases grp (dep' + 2) ys with
            | none => rfl
            | some p => simp
        · have hy1 : y.1 ≠ 1 := by simpa using hy
          repeat walk_at "m1"
          refine ifb (fun hy => ?_) (fun hy => ?_)
          · have hy2 : y.1 = 2 := by simpa using hy
            repeat walk_at "m1"
            refine ⟨a, _, rfl, (by rw [upd_ne _ _ har, upd_self]), ?_⟩
            repeat walk_at "m1"
            refine cl_append (by rw [upd_ne _ _ har, upd_self]) (size_le (by simp at hzu ⊢; omega)) ?_
            rw [upd_swap har]
            repeat walk_at "m1"
            refine ⟨ys.length, by simp, ys, u ++ [y], dep', rfl, ?_, by simp at hz'; omega, by simp at hzu ⊢; omega, fun t ht => hpar' t (.tail _ ht), ?_, .cons (congrArg (fun i => some (V.int i)) (by push_cast; omega)) (.cons rfl (.cons rfl (.cons rfl (.cons rfl .nil))))⟩
            · simp
            · rw [hg]
              simp only [grp, hy1, hy2, if_true, if_false, show ¬ ((2 : Int) = 1) from by decide]
              cases grp (dep') ys with
              | none => rfl
              | some p => simp
          · have hy2 : y.1 ≠ 2 := by simpa using hy
            repeat walk_at "m1"
            refine ⟨a, _, rfl, (by rw [upd_ne _ _ har, upd_self]), ?_⟩
            repeat walk_at "m1"
            refine cl_append (by rw [upd_ne _ _ har, upd_self]) (size_le (by simp at hzu ⊢; omega)) ?_
            rw [upd_swap har]
            repeat walk_at "m1"
            refine ⟨ys.length, by simp, ys, u ++ [y], dep' + 1, rfl, ?_, by simp at hz'; omega, by simp at hzu ⊢; omega, fun t ht => hpar' t (.tail _ ht), ?_, .cons (rfl) (.cons rfl (.cons rfl (.cons rfl (.cons rfl .nil))))⟩
            · simp
            · rw [hg]
              simp only [grp, hy1, hy2, if_false]
              cases grp (dep' + 1) ys with
              | none => rfl
              | some p => simp
      · have hd : dep = 0 := by simp at hx; omega
        subst hd
        refine nx_loc hS ?_
        repeat walk_at "m1"
        refine h u ts' a ?_ ha
        rw [hg]
        simp [grp]
end
def opn : Int × Int := (1, 123)
def cls : Int × Int := (2, 125)
def isL (t : Int × Int) : Prop := t.1 = 11
/-- letters and groups of letters, the last group perhaps without its end -/
def wf : Bool → Tks → Prop
  | _, [] => True
  | g, t :: ts => (isL t ∧ wf g ts) ∨ (t = opn ∧ g = false ∧ wf true ts) ∨ (t = cls ∧ g = true ∧ wf false ts)
def bal (ts : Tks) (p : Nat) : Prop := (ts.take p).count opn = (ts.take p).count cls
def Match (d ts : Tks) (p : Nat) : Prop := p + d.length ≤ ts.length ∧ bal ts p ∧ (ts.drop p).take d.length = d
def First (d ts : Tks) (p : Nat) : Prop := Match d ts p ∧ ∀ q, q < p → ¬ Match d ts q
/-- so many items -/
inductive Its : Tks → Nat → Prop
  | nil : Its [] 0
  | letter {f : Tks} {n : Nat} {t : Int × Int} : Its f n → isL t → Its (f ++ [t]) (n + 1)
  | group {f ls : Tks} {n : Nat} : Its f n → (∀ t ∈ ls, isL t) → Its (f ++ (opn :: ls ++ [cls])) (n + 1)
theorem isL_ne_opn {t : Int × Int} (h : isL t) : t ≠ opn := fun e => by rw [e] at h; simp [isL, opn] at h
theorem isL_ne_cls {t : Int × Int} (h : isL t) : t ≠ cls := fun e => by rw [e] at h; simp [isL, cls] at h
theorem count_letters {ls : Tks} (h : ∀ t ∈ ls, isL t) : ls.count opn = 0 ∧ ls.count cls = 0 :=
  ⟨List.count_eq_zero.mpr fun hm => isL_ne_opn (h _ hm) rfl, List.count_eq_zero.mpr fun hm => isL_ne_cls (h _ hm) rfl⟩
theorem Its.bal {f : Tks} {n : Nat} (h : Its f n) : f.count opn = f.count cls := by
  induction h with
  | nil => rfl
  | letter _ hl ih =>
    have := count_letters (ls := [_]) (fun t ht => by rw [List.mem_singleton.mp ht]; exact hl)
    rw [List.count_append, List.count_append, ih, this.1, this.2]
  | group _ hl ih =>
    have := count_letters hl
    have e1 : opn ≠ cls := by decide
    simp [List.count_append, List.count_cons, ih, this.1, this.2, e1, e1.symm]
theorem Its.letters {f ls : Tks} {n : Nat} (h : Its f n) (hl : ∀ t ∈ ls, isL t) : Its (f ++ ls) (n + ls.length) := by
  induction ls generalizing f n with
  | nil => simpa using h
  | cons t ls ih =>
    have := ih (h.letter (hl t (.head _))) (fun x hx => hl x (.tail _ hx))
    rw [List.append_assoc] at this
    rw [List.length_cons, show n + (ls.length + 1) = n + 1 + ls.length by omega]
    exact this
theorem grp_wf : ∀ {r : Tks}, wf true r → (∀ u rest, grp 1 r = some (u, rest) → ∃ ls : Tks, (∀ t ∈ ls, isL t) ∧ u = ls ++ [cls] ∧ r = ls ++ cls :: rest ∧ wf false rest) ∧ (grp 1 r = none → ∀ t ∈ r, isL t) := by
  intro r
  induction r with
  | nil => intro _; exact ⟨fun u rest h => by simp [grp] at h, fun _ t ht => by simp at ht⟩
  | cons t ts ih =>
    intro h
    rcases h with ⟨hl, hw⟩ | ⟨_, hg, _⟩ | ⟨ht, _, hw⟩
    · obtain ⟨h1, h2⟩ := ih hw
      have e : grp 1 (t :: ts) = (grp 1 ts).map fun p => (t :: p.1, p.2) := by
        unfold isL at hl
        simp [grp, hl]
      rw [e]
      refine ⟨fun u rest hs => ?_, fun hn x hx => ?_⟩
      · cases hg : grp 1 ts with
        | none => rw [hg] at hs; cases hs
        | some p =>
          rw [hg] at hs
          simp only [Option.map_some, Option.some.injEq, Prod.mk.injEq] at hs
          obtain ⟨rfl, rfl⟩ := hs
          obtain ⟨ls, h3, h4, h5, h6⟩ := h1 p.1 p.2 hg
          refine ⟨t :: ls, fun x hx => ?_, by rw [h4]; rfl, by rw [h5]; rfl, h6⟩
          rcases List.mem_cons.mp hx with rfl | hx
          · exact hl
          · exact h3 x hx
      · rcases List.mem_cons.mp hx with rfl | hx
        · exact hl
        · refine h2 ?_ x hx
          cases hg : grp 1 ts with
          | none => rfl
          | some p => rw [hg] at hn; cases hn
    · cases hg
    · subst ht
      have e : grp 1 (cls :: ts) = some ([cls], ts) := by simp [grp, cls]
      rw [e]
      refine ⟨fun u rest hs => ?_, fun hn => by cases hn⟩
      cases hs
      exact ⟨[], fun x hx => by simp at hx, rfl, rfl, hw⟩
/-- the search so far -/
structure Inv (d ts found : Tks) (m n : Nat) (rest : Tks) : Prop where
  eq : ts = found ++ d.take m ++ rest
  lt : m < d.length
  its : Its found n
  wf : wf false rest
  pre : ∀ p, p < found.length → bal ts p → ¬ (found ++ d.take m).drop p <+: d
  no : ∀ p, p + d.length ≤ found.length + m → ¬ Match d ts p
theorem Inv.init {d ts : Tks} (hd : d ≠ []) (hw : Mine.wf false ts) : Inv d ts [] 0 0 ts := by
  have : 0 < d.length := List.length_pos_iff.mpr hd
  exact ⟨by simp, this, .nil, hw, fun p hp => by simp at hp, fun p hp => by (simp only [List.length_nil] at hp; omega)⟩
section
variable {d ts found rest : Tks} {m n : Nat} {t : Int × Int}
theorem take_get (hm : m < d.length) (h : d[m]? = some t) : d.take (m + 1) = d.take m ++ [t] := by
  rw [List.take_add_one, h]; rfl
theorem pre_of_match {q : Nat} {u r : Tks} (e : ts = u ++ r) (hM : Match d ts q) (hq : u.length ≤ q + d.length) : u.drop q <+: d := by
  obtain ⟨h1, h2, h3⟩ := hM
  rw [e] at h3
  rcases Nat.le_total q u.length with h | h
  · rw [List.drop_append_of_le_length h, List.take_append, List.take_of_length_le (by rw [List.length_drop]; omega)] at h3
    exact ⟨_, h3⟩
  · rw [List.drop_of_length_le h]; exact List.nil_prefix
theorem pre_snoc {u : Tks} (h : (u ++ [t]) <+: d) : u <+: d := (List.prefix_append u [t]).trans h
theorem pre_eq {u : Tks} (h : u <+: d) : u = d.take u.length := (List.prefix_iff_eq_take.mp h)
theorem Inv.len (I : Inv d ts found m n rest) : (found ++ d.take m).length = found.length + m := by
  rw [List.length_append, List.length_take]; have := I.lt; omega
/-- a place where what was read may still begin the delimiter -/
theorem Inv.mid (I : Inv d ts found m n (t :: rest)) (hne : d[m]? ≠ some t) {q : Nat} (hb : bal ts q) (hq : q ≤ found.length + m) (hp : (found ++ d.take m ++ [t]).drop q <+: d) :
    ∃ j, q = found.length + j ∧ 1 ≤ j ∧ j ≤ m ∧ okS d m t j := by
  have hlen := I.len
  have hlt := I.lt
  rw [List.drop_append_of_le_length (by omega)] at hp
  have hpre := pre_snoc hp
  have h1 : found.length ≤ q := by
    false_or_by_contra
    exact I.pre q (by omega) hb hpre
  obtain ⟨j, rfl⟩ : ∃ j, q = found.length + j := ⟨q - found.length, by omega⟩
  rw [List.drop_append, List.drop_of_length_le (by omega : found.length ≤ found.length + j), List.nil_append, Nat.add_sub_cancel_left] at hp
  have hl : ((d.take m).drop j).length = m - j := by rw [List.length_drop, List.length_take]; omega
  have e := pre_eq hp
  rw [List.length_append, hl, List.length_singleton] at e
  have ht : d[m - j]? = some t := by
    have h3 : ((d.take m).drop j ++ [t])[m - j]? = some t := by
      rw [List.getElem?_append_right (by omega), hl]; simp
    rw [e, List.getElem?_take_of_lt (by omega)] at h3
    exact h3
  refine ⟨j, rfl, ?_, by omega, ?_, ht⟩
  · rcases Nat.eq_zero_or_pos j with rfl | h
    · exact absurd ht hne
    · exact h
  · have h4 : (d.take m).drop j = d.take (m - j) := by
      have := take_get (m := m - j) (by omega) ht
      rw [this] at e
      exact List.append_cancel_right e
    rw [← h4, List.drop_take]
theorem Inv.noQ (I : Inv d ts found m n (t :: rest)) (hne : d[m]? ≠ some t) (hno : ∀ s, 1 ≤ s → s ≤ m → ¬ okS d m t s) {q : Nat} (hq : q ≤ found.length + m) : ¬ Match d ts q := fun hM => by
  have hlen := I.len
  rcases Nat.lt_or_ge (q + d.length) (found.length + m + 1) with h | h
  · exact I.no q (by omega) hM
  · have e : ts = (found ++ d.take m ++ [t]) ++ rest := by rw [I.eq]; simp
    have := pre_of_match e hM (by rw [List.length_append, hlen, List.length_singleton]; omega)
    obtain ⟨j, _, h1, h2, h3⟩ := I.mid hne hM.2.1 hq this
    exact hno j h1 h2 h3
theorem Inv.step (I : Inv d ts found m n (t :: rest)) (h : d[m]? = some t) (hm : m + 1 < d.length) (hl : ∀ x ∈ d, isL x) : Inv d ts found (m + 1) n rest := by
  have hlen := I.len
  have ht := take_get I.lt h
  have hw := I.wf
  have hL : isL t := hl t (List.mem_of_getElem? h)
  refine ⟨by rw [I.eq, ht]; simp, hm, I.its, ?_, fun p hp hb hpre => ?_, fun p hp hM => ?_⟩
  · rcases hw with ⟨_, hw⟩ | ⟨ho, _⟩ | ⟨ho, _⟩
    · exact hw
    · exact absurd ho (isL_ne_opn hL)
    · exact absurd ho (isL_ne_cls hL)
  · rw [ht, ← List.append_assoc, List.drop_append_of_le_length (by omega)] at hpre
    exact I.pre p hp hb (pre_snoc hpre)
  · rcases Nat.lt_or_ge (p + d.length) (found.length + m + 1) with h' | h'
    · exact I.no p (by omega) hM
    · have e : ts = (found ++ d.take m) ++ (t :: rest) := I.eq
      exact I.pre p (by omega) hM.2.1 (pre_of_match e hM (by rw [hlen]; omega))
theorem Inv.done (I : Inv d ts found m n (t :: rest)) (h : d[m]? = some t) (hm : m + 1 = d.length) : First d ts found.length ∧ rest = ts.drop (found.length + d.length) ∧ ts.take found.length = found := by
  have hlen := I.len
  have ht := take_get I.lt h
  have e : ts = found ++ d ++ rest := by
    rw [I.eq]
    have : d = d.take m ++ [t] := by rw [← ht, List.take_of_length_le (by omega)]
    conv => rhs; rw [this]
    simp
  have htake : ts.take found.length = found := by rw [e, List.append_assoc, List.take_left]
  refine ⟨⟨⟨?_, ?_, ?_⟩, fun q hq hM => ?_⟩, ?_, htake⟩
  · rw [e]; simp
  · unfold bal; rw [htake]; exact I.its.bal
  · rw [e, List.append_assoc, List.drop_left, List.take_left]
  · exact I.no q (by omega) hM
  · rw [e]
    rw [← List.length_append, List.drop_left]
theorem Inv.shift {s : Nat} (I : Inv d ts found m n (t :: rest)) (hne : d[m]? ≠ some t) (h1 : 1 ≤ s) (h2 : s ≤ m) (ok : okS d m t s) (hno : ∀ s', 1 ≤ s' → s' < s → ¬ okS d m t s') (hl : ∀ x ∈ d, isL x) :
    Inv d ts (found ++ d.take s) (m - s + 1) (n + s) rest := by
  have hlen := I.len
  have hlt := I.lt
  have ht := take_get (m := m - s) (by omega) ok.2
  have hL : isL t := hl t (List.mem_of_getElem? ok.2)
  have e1 : d.take m ++ [t] = d.take s ++ d.take (m - s + 1) := by
    rw [ht, ← ok.1, ← List.append_assoc]
    congr 1
    rw [show (d.drop s).take (m - s) = (d.take m).drop s by rw [List.drop_take]]
    have : d.take s = (d.take m).take s := by rw [List.take_take, Nat.min_eq_left h2]
    rw [this, List.take_append_drop]
  have e2 : found ++ d.take s ++ d.take (m - s + 1) = found ++ d.take m ++ [t] := by rw [List.append_assoc, ← e1, List.append_assoc]
  have hls : (d.take s).length = s := by rw [List.length_take]; omega
  refine ⟨by rw [e2, I.eq]; simp, by omega, ?_, ?_, fun p hp hb hpre => ?_, fun p hp hM => ?_⟩
  · have := I.its.letters (ls := d.take s) (fun x hx => hl x (List.mem_of_mem_take hx))
    rw [hls] at this
    exact this
  · rcases I.wf with ⟨_, hw⟩ | ⟨ho, _⟩ | ⟨ho, _⟩
    · exact hw
    · exact absurd ho (isL_ne_opn hL)
    · exact absurd ho (isL_ne_cls hL)
  · rw [List.length_append, hls] at hp
    rw [e2] at hpre
    obtain ⟨j, rfl, h3, h4, h5⟩ := I.mid hne hb (by omega) hpre
    exact hno j h3 (by omega) h5
  · rw [List.length_append, hls] at hp
    rcases Nat.lt_or_ge (p + d.length) (found.length + m + 1) with h' | h'
    · exact I.no p (by omega) hM
    · have e : ts = (found ++ d.take m ++ [t]) ++ rest := by rw [I.eq]; simp
      have := pre_of_match e hM (by rw [List.length_append, hlen, List.length_singleton]; omega)
      obtain ⟨j, hj, h3, h4, h5⟩ := I.mid hne hM.2.1 (by omega) this
      omega
theorem Inv.letter (I : Inv d ts found m n (t :: rest)) (hne : d[m]? ≠ some t) (hno : ∀ s, 1 ≤ s → s ≤ m → ¬ okS d m t s) (hl : ∀ x ∈ d, isL x) (hL : isL t) : Inv d ts (found ++ d.take m ++ [t]) 0 (n + m + 1) rest := by
  have hlen := I.len
  have hlt := I.lt
  have hlm : (d.take m).length = m := by rw [List.length_take]; omega
  refine ⟨by rw [I.eq]; simp, by omega, ?_, ?_, fun p hp hb hpre => ?_, fun p hp hM => ?_⟩
  · have := I.its.letters (ls := d.take m) (fun x hx => hl x (List.mem_of_mem_take hx))
    rw [hlm] at this
    exact this.letter hL
  · rcases I.wf with ⟨_, hw⟩ | ⟨ho, _⟩ | ⟨ho, _⟩
    · exact hw
    · exact absurd ho (isL_ne_opn hL)
    · exact absurd ho (isL_ne_cls hL)
  · rw [List.length_append, hlen, List.length_singleton] at hp
    rw [List.take_zero, List.append_nil] at hpre
    obtain ⟨j, rfl, h3, h4, h5⟩ := I.mid hne hb (by omega) hpre
    exact hno j h3 h4 h5
  · rw [List.length_append, hlen, List.length_singleton] at hp
    exact I.noQ hne hno (by omega) hM
theorem not_bal_in {f ls r : Tks} {p : Nat} (hf : f.count opn = f.count cls) (hls : ∀ x ∈ ls, isL x) (hp : f.length < p) (hp2 : p ≤ f.length + 1 + ls.length) : ¬ bal (f ++ (opn :: ls ++ r)) p := by
  obtain ⟨k, rfl⟩ : ∃ k, p = f.length + (k + 1) := ⟨p - f.length - 1, by omega⟩
  unfold bal
  rw [List.take_length_add_append, List.cons_append, List.take_succ_cons, List.take_append_of_le_length (by omega)]
  have hc := count_letters (ls := ls.take k) (fun x hx => hls x (List.mem_of_mem_take hx))
  have e1 : opn ≠ cls := by decide
  rw [List.count_append, List.count_append, List.count_cons, List.count_cons, hc.1, hc.2, hf]
  simp [e1]
end
section
variable {d ts found rest r u : Tks} {m n : Nat} {t : Int × Int}
theorem opn_not (hl : ∀ x ∈ d, isL x) (k : Nat) : d[k]? ≠ some opn := fun h => isL_ne_opn (hl _ (List.mem_of_getElem? h)) rfl
theorem Inv.group (I : Inv d ts found m n (opn :: r)) (hno : ∀ s, 1 ≤ s → s ≤ m → ¬ okS d m opn s) (hl : ∀ x ∈ d, isL x) (hg : grp 1 r = some (u, rest)) : Inv d ts (found ++ d.take m ++ (opn :: u)) 0 (n + m + 1) rest := by
  have hlen := I.len
  have hlt := I.lt
  have hlm : (d.take m).length = m := by rw [List.length_take]; omega
  have hw : Mine.wf true r := by
    rcases I.wf with ⟨ho, _⟩ | ⟨_, _, hw⟩ | ⟨ho, _⟩
    · exact absurd rfl (isL_ne_opn ho)
    · exact hw
    · simp [opn, cls] at ho
  obtain ⟨ls, h1, h2, h3, h4⟩ := (grp_wf hw).1 u rest hg
  have hits := I.its.letters (ls := d.take m) (fun x hx => hl x (List.mem_of_mem_take hx))
  rw [hlm] at hits
  have hul : u.length = ls.length + 1 := by rw [h2]; simp
  have ets : ts = (found ++ d.take m) ++ (opn :: ls ++ (cls :: rest)) := by rw [I.eq, h3]; simp
  have inside : ∀ p, found.length + m < p → p < found.length + m + 1 + u.length → ¬ bal ts p := fun p h5 h6 => by
    rw [ets]
    exact not_bal_in hits.bal h1 (by rw [hlen]; exact h5) (by rw [hlen]; omega)
  refine ⟨by rw [ets, h2]; simp, by omega, ?_, h4, fun p hp hb hpre => ?_, fun p hp hM => ?_⟩
  · rw [h2]; exact hits.group h1
  · rw [List.length_append, hlen, List.length_cons] at hp
    rw [List.take_zero, List.append_nil] at hpre
    rcases Nat.lt_or_ge (found.length + m) p with h5 | h5
    · exact inside p h5 (by omega) hb
    · have hm : opn ∈ (found ++ d.take m ++ (opn :: u)).drop p := by
        rw [List.drop_append_of_le_length (by omega)]
        exact List.mem_append_right _ (.head _)
      have := hpre.subset hm
      exact isL_ne_opn (hl _ this) rfl
  · rw [List.length_append, hlen, List.length_cons] at hp
    rcases Nat.lt_or_ge (found.length + m) p with h5 | h5
    · exact inside p h5 (by omega) hM.2.1
    · exact I.noQ (opn_not hl m) hno h5 hM
theorem Inv.open_end (I : Inv d ts found m n (opn :: r)) (hno : ∀ s, 1 ≤ s → s ≤ m → ¬ okS d m opn s) (hl : ∀ x ∈ d, isL x) (hg : grp 1 r = none) : ∀ q, ¬ Match d ts q := fun q hM => by
  have hlen := I.len
  have hlt := I.lt
  have hlm : (d.take m).length = m := by rw [List.length_take]; omega
  have hw : Mine.wf true r := by
    rcases I.wf with ⟨ho, _⟩ | ⟨_, _, hw⟩ | ⟨ho, _⟩
    · exact absurd rfl (isL_ne_opn ho)
    · exact hw
    · simp [opn, cls] at ho
  have h1 := (grp_wf hw).2 hg
  have hits := I.its.letters (ls := d.take m) (fun x hx => hl x (List.mem_of_mem_take hx))
  have ets : ts = (found ++ d.take m) ++ (opn :: r ++ []) := by rw [I.eq]; simp
  rcases Nat.lt_or_ge (found.length + m) q with h5 | h5
  · have hb := hM.2.1
    have hq := hM.1
    rw [ets] at hb hq
    exact not_bal_in hits.bal h1 (by rw [hlen]; exact h5) (by rw [hlen]; simp at hq; omega) hb
  · exact I.noQ (opn_not hl m) hno h5 hM
theorem Inv.at_end (I : Inv d ts found m n []) : ∀ q, ¬ Match d ts q := fun q hM => by
  refine I.no q ?_ hM
  have h1 := hM.1
  have h2 := I.len
  rw [I.eq, List.append_nil, h2] at h1
  exact h1
/-- without the braces of a lone group -/
def bareL (f : Tks) : Tks := if 1 < f.length ∧ f[0]? = some opn ∧ f.count opn = 1 ∧ f.getLast? = some cls then (f.drop 1).take (f.length - 2) else f
theorem Its.first {f : Tks} (h : Its f n) (hf : f[0]? = some opn) : 1 ≤ f.count opn := by
  refine List.count_pos_iff.mpr ?_
  exact List.mem_of_getElem? hf
theorem Its.pos {f : Tks} (h : Its f n) (hn : 0 < n) : f ≠ [] := by
  cases h with
  | nil => omega
  | letter _ _ => simp
  | group _ _ => simp
theorem bare_iff {f : Tks} (h : Its f n) : (n = 1 ∧ ∃ t, f.getLast? = some t ∧ t.1 = 2) ↔ (1 < f.length ∧ f[0]? = some opn ∧ f.count opn = 1 ∧ f.getLast? = some cls) := by
  cases h with
  | nil => simp
  | @letter f n t h hl =>
    constructor
    · rintro ⟨_, x, hx, h2⟩
      rw [List.getLast?_concat] at hx
      cases hx
      unfold isL at hl; omega
    · rintro ⟨_, _, _, hx⟩
      rw [List.getLast?_concat] at hx
      cases hx
      exact absurd rfl (isL_ne_cls hl)
  | @group f ls n h hl =>
    have e : f ++ (opn :: ls ++ [cls]) = (f ++ opn :: ls) ++ [cls] := by simp
    have hc := count_letters hl
    have e1 : opn ≠ cls := by decide
    constructor
    · rintro ⟨hn, _⟩
      have hn0 : n = 0 := by omega
      subst hn0
      cases h
      refine ⟨by simp, rfl, ?_, by rw [e, List.getLast?_concat]⟩
      simp [List.count_cons, hc.1, e1, e1.symm]
    · rintro ⟨_, h0, hcnt, _⟩
      refine ⟨?_, cls, by rw [e, List.getLast?_concat], rfl⟩
      false_or_by_contra
      have hne := h.pos (by omega)
      have h1 : f[0]? = some opn := by
        have : 0 < f.length := List.length_pos_iff.mpr hne
        rw [List.getElem?_append_left this] at h0
        exact h0
      have h2 := h.first h1
      rw [List.count_append] at hcnt
      have h3 : 1 ≤ (opn :: ls ++ [cls]).count opn := List.count_pos_iff.mpr (.head _)
      omega
end
section
variable {D : Wd} {A : Around} {stk : List (Env × Loc)} {env : Env} {l l' : Loc} {σ σ' : Sto} {s s' : Shared} {X : Value → Shared → Prop} {Q : V → Sto → Prop}
theorem sz_le {k : Nat} (h : k ≤ 1000) : k ≤ sizeLine := Nat.le_trans h (by decide)
/-- all but r stays -/
def Kp (r : Addr) (σ σ' : Sto) : Prop := ∀ c o, c ≠ r → σ c = some o → σ' c = some o
theorem Kp.refl (r : Addr) (σ : Sto) : Kp r σ σ := fun _ _ _ e => e
theorem Kp.trans {r : Addr} {a b c : Sto} (x : Kp r a b) (y : Kp r b c) : Kp r a c := fun t o h e => y t o h (x t o h e)
theorem Kp.updr {r : Addr} {o : O} : Kp r σ (upd σ r o) := fun c o' h e => by rw [upd_ne _ _ h]; exact e
theorem Kp.updn {r a : Addr} {o : O} (h : Kp r σ σ') (ha : σ a = none) : Kp r σ (upd σ' a o) := fun c o' hc e => by
  rw [upd_ne _ _ (fun q => by rw [q, ha] at e; cases e)]; exact h c o' hc e
theorem Fd.kp {f dx r : Addr} {ts ts' : Tks} (F : Fd σ f dx r ts) (k : Kp r σ σ') (h : σ' r = some (.lst (ts'.map tk).reverse)) : Fd σ' f dx r ts' := by
  have h1 : f ≠ r := fun q => by have := F.obj; rw [q, F.rest] at this; cases this
  have h2 : dx ≠ r := fun q => by have := F.dict; rw [q, F.rest] at this; cases this
  exact ⟨k _ _ h1 F.obj, k _ _ h2 F.dict, h⟩
theorem c_argument {f dx r : Addr} {ts d : Tks} {par : Int × Int} (b : Bs D) (ao : Ao A stk 6) (F : Fd σ f dx r ts) (hz : ts.length ≤ 300) (hd : d ≠ []) (hdl : ∀ x ∈ d, isL x) (hdz : d.length ≤ 100) (hw : wf false ts) (hpar : ∀ t ∈ ts, t ≠ par)
    (hX : (∀ q, ¬ Match d ts q) → ∀ v s', Fy D A stk v s' → X v s')
    (h : ∀ p σ', First d ts p → wf false (ts.drop (p + d.length)) → Kp r σ σ' → σ' r = some (.lst ((ts.drop (p + d.length)).map tk).reverse) → Q (.tup ((bareL (ts.take p)).map tk)) σ') : Cl D A stk (.ref 253) [.ref f, .tup (d.map tk), tk par, .bool false] σ X Q := by
  refine cl_def (names := [Str.ofString "feed", Str.ofString "delimiter", Str.ofString "par", Str.ofString "is_long"]) (xs := [.ref f, .tup (d.map tk), tk par, .bool false]) (ys := []) (ws := []) b ao rfl (by kernel_rfl) ?hb .nil ?hl ?body
  case hb =>
    intro s vs _ hv
    match vs, hv with
    | [x, y, z, w], _ => exact BindsTo.of_eq rfl
  case hl => rfl
  case body =>
    intro L hL A' hA ao'
    subst hA
    simp only [List.zip_cons_cons, List.zip_nil_right, List.append_nil, List.reverse_cons, List.reverse_nil, List.nil_append, List.cons_append] at ao' ⊢
    repeat walk_at "m1"
    intro a ha
    repeat walk_at "m1"
    have har : a ≠ r := fun q => by rw [q, F.rest] at ha; cases ha
    refine ex_while (fun k l σ' => Kp r σ σ' ∧ ((∃ (found : Tks) (m n : Nat) (rest : Tks), k = rest.length + 1 ∧ Inv d ts found m n rest ∧ σ' a = some (.lst (found.map tk)) ∧ σ' r = some (.lst (rest.map tk).reverse) ∧
        Sub [(Str.ofString "going", V.bool true), (Str.ofString "matched", V.int (m : Int)), (Str.ofString "parts", V.int (n : Int)), (Str.ofString "found", .ref a), (Str.ofString "is_long", .bool false), (Str.ofString "par", tk par), (Str.ofString "delimiter", .tup (d.map tk)), (Str.ofString "feed", .ref f)] l) ∨
      (∃ (found : Tks) (n : Nat), k = 0 ∧ First d ts found.length ∧ wf false (ts.drop (found.length + d.length)) ∧ ts.take found.length = found ∧ Its found n ∧ σ' a = some (.lst (found.map tk)) ∧ σ' r = some (.lst ((ts.drop (found.length + d.length)).map tk).reverse) ∧
        Sub [(Str.ofString "going", V.bool false), (Str.ofString "parts", V.int (n : Int)), (Str.ofString "found", .ref a)] l)))
      (ts.length + 1) ⟨?_, .inl ⟨[], 0, 0, ts, rfl, .init hd hw, upd_self _ _ _, ?_, ?_⟩⟩ ?_ PassesOwn.leaving
    · exact (Kp.refl r σ).updn ha
    · rw [upd_ne _ _ har.symm]; exact F.rest
    · exact .cons rfl (.cons rfl (.cons rfl (.cons rfl (.cons rfl (.cons rfl (.cons rfl (.cons rfl .nil)))))))
    · rintro k l σ' ⟨hK, ⟨found, m, n, rest, rfl, I, hfa, hfr, hS⟩ | ⟨found, n, rfl, hF1, hFw, hF2, hits, hfa, hfr, hS⟩⟩
      · refine tv_bool (ev_local (hS (Str.ofString "going") _ rfl) ⟨_, rfl, ift (exs_loc hS ?_)⟩)
        have hlen := I.len
        have htl : ts.length = found.length + m + rest.length := by rw [I.eq, List.length_append, hlen]
        repeat walk_at "m1"
        refine c_wanted b ao'.loc (F.kp hK hfr) (by omega) (fun e v s' hy => fly_leave rfl hy (hX (by subst e; exact I.at_end))) (fun y ys e F' => ?_)
        subst e
        repeat walk_at "m1"
        refine cm_ne (by have := ao'.units; omega) (lev_ttk d) (.tup (n := 50) (fun x hx => by simp at hx)) (by decide) (fun c hc => ?_)
        have hc1 : c = true := hc.mpr (fun q => by
          injection q with q
          exact hd (List.map_eq_nil_iff.mp q))
        subst hc1
        repeat walk_at "m1"
        have hlt := I.lt
        refine sb_tup (j := m) (x := tk d[m]) (by omega) (by omega) ?_ (by rw [List.getElem?_map, List.getElem?_eq_getElem hlt]; rfl) ?_
        · unfold seqIndex?
          simp; omega
        refine cm_eq (by have := ao'.units; omega) (lev_tk _) (lev_tk _) (by decide) (fun c hc2 => ?_)
        have hdm : c = true ↔ d[m]? = some y := by
          rw [hc2, tk_inj, List.getElem?_eq_getElem hlt, Option.some.injEq]
          exact ⟨fun e => e.symm, fun e => e.symm⟩
        have hKr := hK.trans (Kp.updr (r := r) (o := .lst (ys.map tk).reverse) (σ := σ'))
        have hfa' : (upd σ' r (.lst (ys.map tk).reverse)) a = some (.lst (found.map tk)) := by rw [upd_ne _ _ har]; exact hfa
        have hfr' : (upd σ' r (.lst (ys.map tk).reverse)) r = some (.lst (ys.map tk).reverse) := upd_self _ _ _
        generalize upd σ' r (.lst (ys.map tk).reverse) = σ₁ at *
        refine ifb (fun hx => ?_) (fun hx => ?_)
        · subst hx
          have hy := hdm.mp rfl
          repeat walk_at "m1"
          refine cl_len_tup (size_le (by simp; omega)) ?_
          repeat walk_at "m1"
          rw [List.length_map]
          by_cases hm : m + 1 < d.length
          · rw [show decide ((m : Int) + 1 < (d.length : Int)) = true from decide_eq_true (by omega)]
            exact ⟨ys.length + 1, by simp, hKr, .inl ⟨found, m + 1, n, ys, rfl, I.step hy hm hdl, hfa', hfr', .cons rfl (.cons (congrArg (fun i => some (V.int i)) (by push_cast; rfl)) (.cons rfl (.cons rfl (.cons rfl (.cons rfl (.cons rfl (.cons rfl .nil)))))))⟩⟩
          · rw [show decide ((m : Int) + 1 < (d.length : Int)) = false from decide_eq_false (by omega)]
            obtain ⟨h1, h2, h3⟩ := I.done hy (by omega)
            have h4 : wf false ys := by
              rcases I.wf with ⟨_, hw⟩ | ⟨ho, _⟩ | ⟨ho, _⟩
              · exact hw
              · exact absurd ho (isL_ne_opn (hdl _ (List.mem_of_getElem? hy)))
              · exact absurd ho (isL_ne_cls (hdl _ (List.mem_of_getElem? hy)))
            exact ⟨0, by simp, hKr, .inr ⟨found, n, rfl, h1, by rw [← h2]; exact h4, h3, I.its, hfa', by rw [← h2]; exact hfr', .cons rfl (.cons rfl (.cons rfl .nil))⟩⟩
        · subst hx
          have hy : d[m]? ≠ some y := fun q => by have := hdm.mpr q; cases this
          repeat walk_at "m1"
          refine ex_tup2 ao'.handled ?_
          repeat walk_at "m1"
          have hzd : (d.map tk).length ≤ sizeLine := size_le (by simp; omega)
          refine c_slid b ao'.loc hlt (by omega) (fun s h1 h2 hok hno => ?_) (fun hno => ?_)
          · refine ⟨_, _, rfl, ?_⟩
            repeat walk_at "m1"
            refine ⟨a, _, rfl, hfa', ?_⟩
            repeat walk_at "m1"
            refine sl_tup .none (.int s) hzd ?_
            rw [cut_to, ← List.map_take]
            repeat walk_at "m1"
            refine cl_extend_tup hfa' (sz_le (by simp at htl ⊢; omega)) ?_
            repeat walk_at "m1"
            refine ⟨ys.length + 1, by simp, ?_, .inl ⟨found ++ d.take s, m - s + 1, n + s, ys, rfl, I.shift hy h1 h2 hok hno hdl, by rw [upd_self, List.map_append], by rw [upd_ne _ _ har.symm]; exact hfr', .cons rfl (.cons rfl (.cons (congrArg (fun i => some (V.int i)) (by push_cast; rfl)) (.cons rfl (.cons rfl (.cons rfl (.cons rfl (.cons rfl .nil)))))))⟩⟩
            exact hKr.updn ha
          · refine ⟨_, _, rfl, ?_⟩
            repeat walk_at "m1"
            refine ⟨a, _, rfl, hfa', ?_⟩
            repeat walk_at "m1"
            refine sl_tup .none (.int m) hzd ?_
            rw [cut_to, ← List.map_take]
            repeat walk_at "m1"
            refine cl_extend_tup hfa' (sz_le (by simp at htl ⊢; omega)) ?_
            repeat walk_at "m1"
            refine cm_ne (by have := ao'.units; omega) (lev_ttk d) (.tup (n := 50) (fun x hx => by simp at hx)) (by decide) (fun c hc => ?_)
            have hc1 : c = true := hc.mpr (fun q => by
              injection q with q
              exact hd (List.map_eq_nil_iff.mp q))
            subst hc1
            repeat walk_at "m1"
            have hyt : y ∈ ts := by rw [I.eq]; simp
            refine c_check_par b ao'.loc (hpar y hyt) ?_
            have hfa2 : (upd σ₁ a (.lst (found.map tk ++ (d.take m).map tk))) a = some (.lst ((found ++ d.take m).map tk)) := by rw [upd_self, List.map_append]
            have hfr2 : (upd σ₁ a (.lst (found.map tk ++ (d.take m).map tk))) r = some (.lst (ys.map tk).reverse) := by rw [upd_ne _ _ har.symm]; exact hfr'
            have hK2 : Kp r σ (upd σ₁ a (.lst (found.map tk ++ (d.take m).map tk))) := hKr.updn ha
            generalize (upd σ₁ a (.lst (found.map tk ++ (d.take m).map tk))) = σ₂ at *
            have hdc : ∀ {c : Bool}, (c = true ↔ V.tup (d.map tk) ≠ V.tup []) → c = true := fun hc => hc.mpr (fun q => by
              injection q with q
              exact hd (List.map_eq_nil_iff.mp q))
            rcases I.wf with ⟨hyL, _⟩ | ⟨hyo, _, hw2⟩ | ⟨_, hg, _⟩
            · have hy1 : y.1 = 11 := hyL
              repeat walk_at "m1"
              rw [show ((y.1 == 2) = false) from by rw [hy1]; rfl]
              repeat walk_at "m1"
              rw [show ((y.1 == 1) = false) from by rw [hy1]; rfl]
              repeat walk_at "m1"
              refine ⟨a, _, rfl, hfa2, ?_⟩
              repeat walk_at "m1"
              refine cl_append hfa2 (sz_le (by simp at htl ⊢; omega)) ?_
              repeat walk_at "m1"
              refine cm_ne (by have := ao'.units; omega) (lev_ttk d) (.tup (n := 50) (fun x hx => by simp at hx)) (by decide) (fun c hc => ?_)
              have := hdc hc
              subst this
              repeat walk_at "m1"
              refine ⟨ys.length + 1, by simp, hK2.updn ha, .inl ⟨found ++ d.take m ++ [y], 0, n + m + 1, ys, rfl, I.letter hy hno hdl hyL, by rw [upd_self]; simp, by rw [upd_ne _ _ har.symm]; exact hfr2, .cons rfl (.cons rfl (.cons (congrArg (fun i => some (V.int i)) (by push_cast; rfl)) (.cons rfl (.cons rfl (.cons rfl (.cons rfl (.cons rfl .nil)))))))⟩⟩
            · subst hyo
              repeat walk_at "m1"
              refine ⟨a, _, rfl, hfa2, ?_⟩
              repeat walk_at "m1"
              refine c_group b ao'.loc (F.kp hK2 hfr2) (by simp at htl; omega) (fun t ht => hpar t (by rw [I.eq]; simp [ht])) (fun e v s' hy => fly_leave rfl hy (hX (I.open_end hno hdl e))) (fun u rest a2 hg ha2 => ?_)
              have I2 := I.group hno hdl hg
              have e1 := congrArg List.length I2.eq
              have e2 := congrArg List.length I.eq
              simp only [List.length_append, List.length_cons, List.take_zero, List.length_nil, List.length_take] at e1 e2
              have haa : a ≠ a2 := fun q => by rw [q, ha2] at hfa2; cases hfa2
              have hr2 : a2 ≠ r := fun q => by rw [q, hfr2] at ha2; cases ha2
              repeat walk_at "m1"
              refine cl_extend (by rw [upd_ne _ _ har, upd_ne _ _ haa]; exact hfa2) (by rw [upd_ne _ _ hr2, upd_self]) (sz_le (by simp; omega)) ?_
              repeat walk_at "m1"
              refine cm_ne (by have := ao'.units; omega) (lev_ttk d) (.tup (n := 50) (fun x hx => by simp at hx)) (by decide) (fun c hc => ?_)
              have := hdc hc
              subst this
              repeat walk_at "m1"
              refine ⟨rest.length + 1, by simp; omega, Kp.updn (fun c o hc e => ?_) ha, .inl ⟨found ++ d.take m ++ (opn :: u), 0, n + m + 1, rest, rfl, I2, by rw [upd_self]; simp, by rw [upd_ne _ _ har.symm, upd_self], .cons rfl (.cons rfl (.cons (congrArg (fun i => some (V.int i)) (by push_cast; rfl)) (.cons rfl (.cons rfl (.cons rfl (.cons rfl (.cons rfl .nil)))))))⟩⟩
              rw [upd_ne _ _ hc, upd_ne _ _ (fun q => by rw [← q, hK2 c o hc e] at ha2; cases ha2)]
              exact hK2 c o hc e
            · cases hg
      · refine tv_bool (ev_local (hS (Str.ofString "going") _ rfl) ⟨_, rfl, iff' (nx_loc hS ?_)⟩)
        have hb := bare_iff hits
        have hfz : found.length ≤ 300 := by have := hF1.1.1; omega
        have fin := h found.length σ' hF1 hFw hK hfr
        rw [hF2] at fin
        have rest2 : ¬ (n = 1 ∧ ∃ t, found.getLast? = some t ∧ t.1 = 2) → Q (.tup (found.map tk)) σ' := fun hn => by
          unfold bareL at fin
          rw [if_neg (fun q => hn (hb.mpr q))] at fin
          exact fin
        have hzf : (found.map tk).length ≤ sizeLine := size_le (by simp; omega)
        repeat walk_at "m1"
        refine ifb (fun hx => ?_) (fun hx => ?_)
        · have hn : n = 1 := by simp at hx; omega
          subst hn
          have hne := hits.pos (by omega)
          obtain ⟨t, ht⟩ : ∃ t, found.getLast? = some t := ⟨_, List.getLast?_eq_some_getLast hne⟩
          have hpos : 0 < found.length := List.length_pos_iff.mpr hne
          repeat walk_at "m1"
          refine sb_list_neg (x := tk t) hfa (by decide) (by decide) (by simp; omega) ?_ ?_
          · rw [List.getLast?_eq_getElem?] at ht
            rw [List.getElem?_map, List.length_map, show ((-1 : Int) + (found.length : Int)).toNat = found.length - 1 by omega, ht]; rfl
          repeat walk_at "m1"
          refine ifb (fun hx2 => ?_) (fun hx2 => ?_)
          · have ht2 : t.1 = 2 := by simpa using hx2
            have hc := hb.mp ⟨rfl, t, ht, ht2⟩
            repeat walk_at "m1"
            refine sl_list hfa (.int _) (.int _) .none (by decide) hzf (fun b₁ hb₁ => ?_)
            rw [pick_mid _ (by simp; omega)]
            repeat walk_at "m1"
            refine cl_tuple_list (upd_self _ _ _) (size_le (by simp; omega)) ?_
            repeat walk_at "m1"
            have hbr : r ≠ b₁ := fun q => by rw [← q, hfr] at hb₁; cases hb₁
            have fin2 := h found.length (upd σ' b₁ (.lst (((found.map tk).drop 1).take ((found.map tk).length - 2)))) hF1 hFw (fun c o hc e => by rw [upd_ne _ _ (fun q => by rw [← q, hK c o hc e] at hb₁; cases hb₁)]; exact hK c o hc e) (by rw [upd_ne _ _ hbr]; exact hfr)
            rw [hF2] at fin2
            unfold bareL at fin2
            rw [if_pos hc, List.map_take, List.map_drop] at fin2
            rw [List.length_map]
            rw [List.length_map] at fin2
            exact fin2
          · have ht2 : t.1 ≠ 2 := by simpa using hx2
            repeat walk_at "m1"
            refine cl_tuple_list hfa hzf ?_
            repeat walk_at "m1"
            refine rest2 ?_
            rintro ⟨_, t', h1, h2⟩
            rw [ht] at h1; cases h1
            exact ht2 h2
        · have hn : n ≠ 1 := by simp at hx; omega
          repeat walk_at "m1"
          refine cl_tuple_list hfa hzf ?_
          repeat walk_at "m1"
          exact rest2 fun q => hn q.1
end
section
variable {D : Wd} {A : Around} {stk : List (Env × Loc)} {env : Env} {l l' : Loc} {σ σ' : Sto} {s s' : Shared} {X : Value → Shared → Prop} {Q : V → Sto → Prop}
theorem cs_macro (w : World) : Cs w 214 213 := ⟨⟨_,_,_,_,_,_,_,_,_,_,_,_,rfl⟩, by kernel_rfl, by rfl, by rfl, by rfl⟩
abbrev sPar := Str.ofString "parameters"
abbrev sBody := Str.ofString "body"
abbrev sLong := Str.ofString "is_long"
abbrev sOuter := Str.ofString "is_outer"
abbrev sCount := Str.ofString "count"
abbrev sDel := Str.ofString "delimiters"
theorem tl_par : typeLookup (.type "object") sPar = pure none := by rw [typeLookup_type, builtinLookup_eq_fast]; kernel_rfl
theorem tl_body : typeLookup (.type "object") sBody = pure none := by rw [typeLookup_type, builtinLookup_eq_fast]; kernel_rfl
theorem tl_long : typeLookup (.type "object") sLong = pure none := by rw [typeLookup_type, builtinLookup_eq_fast]; kernel_rfl
theorem tl_outer : typeLookup (.type "object") sOuter = pure none := by rw [typeLookup_type, builtinLookup_eq_fast]; kernel_rfl
theorem tl_count : typeLookup (.type "object") sCount = pure none := by rw [typeLookup_type, builtinLookup_eq_fast]; kernel_rfl
theorem tl_del : typeLookup (.type "object") sDel = pure none := by rw [typeLookup_type, builtinLookup_eq_fast]; kernel_rfl
/-- the rows of a parameter text -/
def good : List Tks → Tks → Prop
  | _, [] => True
  | sg, t :: ts => if t.1 = 9 then t.2 = (sg.length : Int) ∧ sg.length ≤ 9 ∧ good (sg ++ [[]]) ts else good (sg.dropLast ++ [(sg.getLast?.getD []) ++ [t]]) ts
def segs : List Tks → Tks → List Tks
  | sg, [] => sg
  | sg, t :: ts => if t.1 = 9 then segs (sg ++ [[]]) ts else segs (sg.dropLast ++ [(sg.getLast?.getD []) ++ [t]]) ts
theorem segs_cons (sg : List Tks) (t : Int × Int) (ts : Tks) : segs sg (t :: ts) = if t.1 = 9 then segs (sg ++ [[]]) ts else segs (sg.dropLast ++ [(sg.getLast?.getD []) ++ [t]]) ts := rfl
structure Rws (σ₀ σ' : Sto) (R : Addr) (ps : List (Addr × Tks)) : Prop where
  sup : Sup σ₀ σ'
  row : σ' R = some (.lst (ps.map fun p => V.ref p.1))
  at' : ∀ p ∈ ps, σ' p.1 = some (.lst (p.2.map tk)) ∧ σ₀ p.1 = none ∧ p.1 ≠ R
  nd : (ps.map (·.1)).Nodup
  new : σ₀ R = none
theorem Rws.push {σ₀ : Sto} {R an : Addr} {ps : List (Addr × Tks)} (W : Rws σ₀ σ' R ps) (h : σ' an = none) : Rws σ₀ (upd (upd σ' an (.lst [])) R (.lst (ps.map (fun p => V.ref p.1) ++ [.ref an]))) R (ps ++ [(an, [])]) := by
  have hR : an ≠ R := fun q => by have := W.row; rw [← q, h] at this; cases this
  have h0 : σ₀ an = none := by
    cases q : σ₀ an with
    | none => rfl
    | some o => have := W.sup _ _ q; rw [h] at this; cases this
  refine ⟨fun c o e => ?_, by rw [upd_self]; simp, fun p hp => ?_, ?_, W.new⟩
  · rw [upd_ne _ _ (fun q => by rw [q, W.new] at e; cases e), upd_ne _ _ (fun q => by rw [q, h0] at e; cases e)]; exact W.sup _ _ e
  · rcases List.mem_append.mp hp with hp | hp
    · obtain ⟨h1, h2, h3⟩ := W.at' p hp
      exact ⟨by rw [upd_ne _ _ h3, upd_ne _ _ (fun q => by rw [q, h] at h1; cases h1)]; exact h1, h2, h3⟩
    · rw [List.mem_singleton.mp hp]
      exact ⟨by rw [upd_ne _ _ hR, upd_self]; rfl, h0, hR⟩
  · rw [List.map_append, List.nodup_append]
    refine ⟨W.nd, by simp, fun a ha b hb => ?_⟩
    simp only [List.map_cons, List.map_nil, List.mem_singleton] at hb
    obtain ⟨p, hp, rfl⟩ := List.mem_map.mp ha
    subst hb
    intro q
    have := (W.at' p hp).1
    rw [q, h] at this; cases this
theorem Rws.add {σ₀ : Sto} {R al : Addr} {sg : Tks} {t : Int × Int} {qs : List (Addr × Tks)} (W : Rws σ₀ σ' R (qs ++ [(al, sg)])) : Rws σ₀ (upd σ' al (.lst ((sg ++ [t]).map tk))) R (qs ++ [(al, sg ++ [t])]) := by
  obtain ⟨h1, h2, h3⟩ := W.at' (al, sg) (List.mem_append_right _ (.head _))
  have hnd := W.nd
  rw [List.map_append, List.nodup_append] at hnd
  refine ⟨fun c o e => ?_, ?_, fun p hp => ?_, ?_, W.new⟩
  · rw [upd_ne _ _ (fun q => by rw [q, h2] at e; cases e)]; exact W.sup _ _ e
  · rw [upd_ne _ _ (Ne.symm h3), W.row]; simp
  · rcases List.mem_append.mp hp with hp | hp
    · obtain ⟨h4, h5, h6⟩ := W.at' p (List.mem_append_left _ hp)
      refine ⟨?_, h5, h6⟩
      rw [upd_ne _ _ (hnd.2.2 _ (List.mem_map_of_mem (f := Prod.fst) hp) al (by simp))]; exact h4
    · rw [List.mem_singleton.mp hp]
      exact ⟨upd_self _ _ _, h2, h3⟩
  · have := W.nd
    rw [List.map_append] at this ⊢
    exact this
theorem c_macro_init {x dx : Addr} {ps : Tks} (b : Bs D) (ao : Ao A stk 4) (hz : ps.length ≤ 300) (hg : good [[]] ps) (hx : σ x = some (.inst 214 dx)) (hd : σ dx = some (.dict []))
    (h : ∀ σ', Sup (upd σ dx (.dict [(sDel, .tup ((segs [[]] ps).map fun s => .tup (s.map tk))), (sCount, .int ((segs [[]] ps).length - 1)), (sOuter, .bool false), (sLong, .bool false), (sBody, .tup []), (sPar, .tup (ps.map tk))])) σ' → Q .none σ') : Cl D A stk (.ref 197) [.ref x, .tup (ps.map tk), .tup []] σ X Q := by
  refine cl_def (names := [Str.ofString "self", Str.ofString "parameters", Str.ofString "body", Str.ofString "is_long", Str.ofString "is_outer"]) (xs := [.ref x, .tup (ps.map tk), .tup []]) (ys := [.bool false, .bool false]) (ws := [.bool false, .bool false]) b ao rfl (by kernel_rfl) ?hb (.cons (.bool _) (.cons (.bool _) .nil)) ?hl ?body
  case hb =>
    intro s vs hst hv
    match vs, hv with
    | [x, y, z], _ => exact binds_K (b.kin.keeps hst) rfl rfl rfl rfl rfl
  case hl => rfl
  case body =>
    intro L hL A' hA ao'
    subst hA
    simp only [List.zip_cons_cons, List.zip_nil_right, List.append_nil, List.reverse_cons, List.reverse_nil, List.nil_append, List.cons_append] at ao' ⊢
    repeat walk_at "m1"
    intro r0 hr0
    repeat walk_at "m1"
    intro R hR
    repeat walk_at "m1"
    have hxd : x ≠ dx := fun q => by rw [q, hd] at hx; cases hx
    have hRr : R ≠ r0 := fun q => by rw [q, upd_self] at hR; cases hR
    have hR0 : σ R = none := by rw [upd_ne _ _ hRr] at hR; exact hR
    have W0 : Rws σ (upd (upd σ r0 (.lst [])) R (.lst [.ref r0])) R [(r0, [])] := by
      refine ⟨(Sup.new hr0).trans (Sup.new hR), upd_self _ _ _, fun p hp => ?_, by simp, hR0⟩
      rw [List.mem_singleton.mp hp]
      exact ⟨by rw [upd_ne _ _ hRr.symm, upd_self]; rfl, hr0, hRr.symm⟩
    generalize upd (upd σ r0 (.lst [])) R (.lst [.ref r0]) = σ₁ at *
    refine ex_for_tup ao'.handled ?_ PassesOwn.leaving
    repeat walk_at "m1"
    refine ⟨ps.map tk, rfl, fun ys l σ' => ∃ (ts : Tks) (qs : List (Addr × Tks)), ys = ts.map tk ∧ (∀ p ∈ qs, p.2.length + ts.length ≤ 300) ∧ qs.length + ts.length ≤ 301 ∧ qs ≠ [] ∧ good (qs.map Prod.snd) ts ∧ segs [[]] ps = segs (qs.map Prod.snd) ts ∧ Rws σ σ' R qs ∧
      Sub [(Str.ofString "rows", .ref R), (Str.ofString "is_outer", .bool false), (Str.ofString "is_long", .bool false), (Str.ofString "body", .tup []), (Str.ofString "parameters", .tup (ps.map tk)), (Str.ofString "self", .ref x)] l, ⟨ps, [(r0, [])], rfl, ?_, ?_, by simp, hg, rfl, W0, ?_⟩, ?_, ?_⟩
    · intro p hp; rw [List.mem_singleton.mp hp]; simpa using hz
    · simp; omega
    · exact .cons rfl (.cons rfl (.cons rfl (.cons rfl (.cons rfl (.cons rfl .nil)))))
    · rintro y ys l σ' ⟨ts, qs, hys, hzz, hzq, hne, hgd, hsg, W, hS⟩
      cases ts with
      | nil => cases hys
      | cons t ts =>
        simp only [List.map_cons] at hys
        injection hys with h1 h2
        subst h1 h2
        refine exs_loc (.head hS) ?_
        have hqz : (qs.map fun p => V.ref p.1).length ≤ sizeLine := size_le (by simp at hzq ⊢; omega)
        repeat walk_at "m1"
        refine ifb (fun hx9 => ?_) (fun hx9 => ?_)
        · have ht9 : t.1 = 9 := by simpa using hx9
          unfold good at hgd
          rw [if_pos ht9] at hgd
          rw [segs_cons, if_pos ht9] at hsg
          rw [List.length_map] at hgd
          repeat walk_at "m1"
          refine cl_len_list W.row hqz ?_
          repeat walk_at "m1"
          rw [List.length_map, show (!(t.2 == (qs.length : Int))) = false from by rw [hgd.1]; simp]
          repeat walk_at "m1"
          refine cl_len_list W.row hqz ?_
          repeat walk_at "m1"
          rw [List.length_map, show decide ((9 : Int) < (qs.length : Int)) = false from decide_eq_false (by have := hgd.2.1; omega)]
          repeat walk_at "m1"
          refine ⟨R, _, rfl, W.row, ?_⟩
          repeat walk_at "m1"
          intro an han
          repeat walk_at "m1"
          have hRa : R ≠ an := fun q => by have := W.row; rw [q, han] at this; cases this
          refine cl_append (by rw [upd_ne _ _ hRa]; exact W.row) hqz ?_
          repeat walk_at "m1"
          refine ⟨ts, qs ++ [(an, [])], rfl, fun p hp => ?_, by simp at hzq ⊢; omega, by simp, by rw [List.map_append]; exact hgd.2.2, by rw [List.map_append]; exact hsg, W.push han, ?_⟩
          · rcases List.mem_append.mp hp with hp | hp
            · have := hzz p hp; simp at this; omega
            · rw [List.mem_singleton.mp hp]; simp at hzq ⊢; omega
          · exact .cons rfl (.cons rfl (.cons rfl (.cons rfl (.cons rfl (.cons rfl .nil)))))
        · have ht9 : t.1 ≠ 9 := by simpa using hx9
          unfold good at hgd
          rw [if_neg ht9] at hgd
          rw [segs_cons, if_neg ht9] at hsg
          obtain ⟨qs', ⟨al, sg⟩, rfl⟩ : ∃ qs' p, qs = qs' ++ [p] := ⟨qs.dropLast, qs.getLast hne, (List.dropLast_concat_getLast hne).symm⟩
          simp only [List.map_append, List.map_cons, List.map_nil, List.dropLast_concat, List.getLast?_concat, Option.getD_some] at hgd hsg
          have hal := W.at' (al, sg) (List.mem_append_right _ (.head _))
          repeat walk_at "m1"
          refine sb_list_neg (x := .ref al) W.row (by decide) (by decide) (by simp; omega) ?_ ?_
          · rw [show ((-1 : Int) + ((List.map (fun p => V.ref p.1) (qs' ++ [(al, sg)])).length : Int)).toNat = qs'.length by (simp; omega)]
            simp
          refine ⟨al, _, rfl, hal.1, ?_⟩
          repeat walk_at "m1"
          refine cl_append hal.1 (size_le (by have := hzz (al, sg) (List.mem_append_right _ (.head _)); simp at this ⊢; omega)) ?_
          repeat walk_at "m1"
          have W' := W.add (t := t)
          rw [List.map_append] at W'
          refine ⟨ts, qs' ++ [(al, sg ++ [t])], rfl, fun p hp => ?_, by simp at hzq ⊢; omega, by simp, by simpa using hgd, by simpa using hsg, W', ?_⟩
          · rcases List.mem_append.mp hp with hp | hp
            · have := hzz p (List.mem_append_left _ hp); simp at this; omega
            · have := hzz (al, sg) (List.mem_append_right _ (.head _)); rw [List.mem_singleton.mp hp]; simp at this ⊢; omega
          · exact .cons rfl (.cons rfl (.cons rfl (.cons rfl (.cons rfl (.cons rfl .nil)))))
    · rintro l σ' ⟨ts, qs, hys, hzz, hzq, hne, hgd, hsg, W, hS⟩
      cases ts with
      | cons t ts => cases hys
      | nil =>
        refine nx_loc hS ?_
        have hsg' : segs [[]] ps = qs.map Prod.snd := hsg
        rw [hsg'] at h
        have hx1 : σ' x = some (.inst 214 dx) := W.sup _ _ hx
        have hd1 : σ' dx = some (.dict []) := W.sup _ _ hd
        have hqz : (qs.map fun p => V.ref p.1).length ≤ sizeLine := size_le (by simp at hzq ⊢; omega)
        have hRd : R ≠ dx := fun q => by have := W.new; rw [q, hd] at this; cases this
        repeat walk_at "m1"
        refine ex_setattr b (cs_macro _) (by rfl) tl_par ?_
        repeat walk_at "m1"
        refine ⟨x, dx, [], rfl, hx1, hd1, by simp, ?_⟩
        repeat walk_at "m1"
        refine ex_setattr b (cs_macro _) (by rfl) tl_body ?_
        repeat walk_at "m1"
        refine ⟨x, dx, _, rfl, by rw [upd_ne _ _ hxd]; exact hx1, upd_self _ _ _, by simp, ?_⟩
        rw [upd_upd]
        repeat walk_at "m1"
        refine ex_setattr b (cs_macro _) (by rfl) tl_long ?_
        repeat walk_at "m1"
        refine ⟨x, dx, _, rfl, by rw [upd_ne _ _ hxd]; exact hx1, upd_self _ _ _, by simp, ?_⟩
        rw [upd_upd]
        repeat walk_at "m1"
        refine ex_setattr b (cs_macro _) (by rfl) tl_outer ?_
        repeat walk_at "m1"
        refine ⟨x, dx, _, rfl, by rw [upd_ne _ _ hxd]; exact hx1, upd_self _ _ _, by simp, ?_⟩
        rw [upd_upd]
        repeat walk_at "m1"
        refine ex_setattr b (cs_macro _) (by rfl) tl_count ?_
        repeat walk_at "m1"
        refine cl_len_list (by rw [upd_ne _ _ hRd]; exact W.row) hqz ?_
        repeat walk_at "m1"
        refine ⟨x, dx, _, rfl, by rw [upd_ne _ _ hxd]; exact hx1, upd_self _ _ _, by simp, ?_⟩
        rw [upd_upd]
        repeat walk_at "m1"
        refine ex_setattr b (cs_macro _) (by rfl) tl_del ?_
        repeat walk_at "m1"
        generalize hfs : [(sCount, V.int _), _, _, _, _] = fs
        have hR2 : (upd σ' dx (.dict fs)) R = some (.lst (qs.map fun p => V.ref p.1)) := by rw [upd_ne _ _ hRd]; exact W.row
        have hat2 : ∀ p ∈ qs, (upd σ' dx (.dict fs)) p.1 = some (.lst (p.2.map tk)) := fun p hp => by
          obtain ⟨h1, h2, _⟩ := W.at' p hp
          rw [upd_ne _ _ (fun q => by rw [q, hd] at h2; cases h2)]; exact h1
        have hx2 : (upd σ' dx (.dict fs)) x = some (.inst 214 dx) := by rw [upd_ne _ _ hxd]; exact hx1
        have hd2 : (upd σ' dx (.dict fs)) dx = some (.dict fs) := upd_self _ _ _
        have hs2 : ∀ c o, c ≠ dx → σ c = some o → (upd σ' dx (.dict fs)) c = some o := fun c o hc e => by rw [upd_ne _ _ hc]; exact W.sup _ _ e
        generalize upd σ' dx (.dict fs) = σ₂ at *
        refine ev_comp_list [] ao'.handled (by rfl) ?_
        repeat walk_at "m1"
        refine ⟨R, _, rfl, hR2, fun ad had => ⟨fun ys ac σ'' => ∃ (us : List (Addr × Tks)), ys = us.map (fun p => V.ref p.1) ∧ (∀ p ∈ us, p ∈ qs) ∧ (ac ++ us.map (fun p => V.tup (p.2.map tk)) = qs.map (fun p => V.tup (p.2.map tk))) ∧ σ'' = upd σ₂ ad (.lst ac), ⟨qs, rfl, fun p hp => hp, rfl, rfl⟩, ?_, ?_, ?_⟩⟩
        · rintro ys ac σ'' ⟨us, _, _, _, rfl⟩
          rw [upd_ne _ _ (fun q => by rw [q, had] at hR2; cases hR2)]; exact hR2
        · rintro y ys ac σ'' C lc X' ⟨us, hys, hus, hac, rfl⟩
          cases us with
          | nil => cases hys
          | cons p us =>
            simp only [List.map_cons] at hys
            injection hys with h1 h2
            subst h1 h2
            refine ts_nil (ift ?_)
            repeat walk_at "m1"
            have hp2 := hat2 p (hus p (.head _))
            refine cl_tuple_list (by rw [upd_ne _ _ (fun q => by rw [q, had] at hp2; cases hp2)]; exact hp2) (size_le (by have := hzz p (hus p (.head _)); simp at this ⊢; omega)) ?_
            refine ⟨upd_self _ _ _, ?_, us, rfl, fun q hq => hus q (.tail _ hq), ?_, upd_upd _ _ _ _⟩
            · have := congrArg List.length hac
              simp at this hzq
              exact sz_le (by omega)
            · rw [← hac]; simp
        · rintro ac σ'' ⟨us, hys, hus, hac, rfl⟩
          cases us with
          | cons p us => cases hys
          | nil =>
            simp only [List.map_nil, List.append_nil] at hac
            subst hac
            repeat walk_at "m1"
            refine cl_tuple_list (upd_self _ _ _) (size_le (by simp at hzq ⊢; omega)) ?_
            repeat walk_at "m1"
            have hxa : x ≠ ad := fun q => by rw [q, had] at hx2; cases hx2
            have hda : dx ≠ ad := fun q => by rw [q, had] at hd2; cases hd2
            refine ⟨x, dx, _, rfl, by rw [upd_ne _ _ hxa]; exact hx2, by rw [upd_ne _ _ hda]; exact hd2, by rw [← hfs]; simp, ?_⟩
            repeat walk_at "m1"
            refine h _ (fun c o e => ?_)
            by_cases hc : c = dx
            · subst hc
              rw [upd_self] at e ⊢
              rw [← hfs]
              rw [← e]
              simp
            · rw [upd_ne _ _ hc] at e ⊢
              rw [upd_ne _ _ (fun q => by rw [q] at e hc; rw [hs2 _ _ hc e] at had; cases had)]
              exact hs2 _ _ hc e
end
section
variable {D : Wd} {A : Around} {stk : List (Env × Loc)} {env : Env} {l l' : Loc} {σ σ' : Sto} {s s' : Shared} {X : Value → Shared → Prop} {Q : V → Sto → Prop}
abbrev fsM (ps : Tks) (sg : List Tks) : Loc := [(sDel, .tup (sg.map fun s => .tup (s.map tk))), (sCount, .int (sg.length - 1)), (sOuter, .bool false), (sLong, .bool false), (sBody, .tup []), (sPar, .tup (ps.map tk))]
structure Mc (σ : Sto) (mc mdx : Addr) (ps : Tks) (sg : List Tks) : Prop where
  obj : σ mc = some (.inst 214 mdx)
  dict : σ mdx = some (.dict (fsM ps sg))
theorem c_macro {ps : Tks} (b : Bs D) (ao : Ao A stk 5) (hz : ps.length ≤ 300) (hg : good [[]] ps)
    (h : ∀ mc mdx σ', Sup σ σ' → σ mc = none → σ mdx = none → Mc σ' mc mdx ps (segs [[]] ps) → Q (.ref mc) σ') : Cl D A stk (.ref 214) [.tup (ps.map tk), .tup []] σ X Q := by
  refine cl_new b ao (cs_macro _) (by rfl) ⟨_, rfl, rfl⟩ (fun x dx A' hx hd hne ao' => ?_)
  refine c_macro_init b ao' hz hg (upd_self _ _ _) (by rw [upd_ne _ _ hne.symm, upd_self]) (fun σ' hs => ⟨rfl, h x dx σ' (fun a o e => hs a o ?_) hx hd ⟨hs _ _ ?_, hs _ _ (upd_self _ _ _)⟩⟩)
  · have h1 : a ≠ x := fun q => by rw [q, hx] at e; cases e
    have h2 : a ≠ dx := fun q => by rw [q, hd] at e; cases e
    rw [upd_ne _ _ h2, upd_ne _ _ h1, upd_ne _ _ h2]; exact e
  · rw [upd_ne _ _ hne, upd_self]
theorem c_has_brace {mc mdx : Addr} {ps : Tks} {sg : List Tks} {t : Int × Int} (b : Bs D) (ao : Ao A stk 1) (M : Mc σ mc mdx ps sg) (hz : ps.length ≤ 300) (ht : ps.getLast? = some t) (h1 : t.1 ≠ 1) (h : Q (.bool false) σ) : Cl D A stk (.ref 204) [.ref mc] σ X Q := by
  refine cl_def (names := [Str.ofString "self"]) (xs := [.ref mc]) (ys := []) (ws := []) b ao rfl (by kernel_rfl) ?hb .nil ?hl ?body
  case hb =>
    intro s vs _ hv
    match vs, hv with
    | [x], _ => exact BindsTo.of_eq rfl
  case hl => rfl
  case body =>
    intro L hL A' hA ao'
    clear hA
    simp only [List.zip_cons_cons, List.zip_nil_right, List.append_nil, List.reverse_cons, List.reverse_nil, List.nil_append, List.cons_append] at ao' ⊢
    have hne : ps ≠ [] := fun q => by rw [q] at ht; cases ht
    have hpos : 0 < ps.length := List.length_pos_iff.mpr hne
    repeat walk_at "m1"
    refine ev_attr b (cs_macro _) (by rfl) tl_par ?_
    repeat walk_at "m1"
    refine ⟨mc, mdx, _, _, rfl, M.obj, M.dict, rfl, (by intro c q; cases q), ?_⟩
    repeat walk_at "m1"
    refine cm_ne (by have := ao'.units; omega) (lev_ttk ps) (.tup (n := 50) (fun x hx => by simp at hx)) (by decide) (fun c hc => ?_)
    have hc1 : c = true := hc.mpr (fun q => by
      injection q with q
      exact hne (List.map_eq_nil_iff.mp q))
    subst hc1
    repeat walk_at "m1"
    refine ev_attr b (cs_macro _) (by rfl) tl_par ?_
    repeat walk_at "m1"
    refine ⟨mc, mdx, _, _, rfl, M.obj, M.dict, rfl, (by intro c q; cases q), ?_⟩
    repeat walk_at "m1"
    refine sb_tup (j := ps.length - 1) (x := tk t) (by decide) (by decide) ?_ ?_ ?_
    · unfold seqIndex?
      simp; omega
    · rw [List.getLast?_eq_getElem?] at ht
      rw [List.getElem?_map, ht]; rfl
    repeat walk_at "m1"
    rw [show (t.1 == 1) = false from beq_false_of_ne h1]
    exact h
/-- the arguments of so many delimiters -/
inductive Args (d : Tks) : Nat → Tks → List Tks → Tks → Prop
  | zero (ts : Tks) : Args d 0 ts [] ts
  | succ {n p : Nat} {ts rest : Tks} {gs : List Tks} : First d ts p → Args d n (ts.drop (p + d.length)) gs rest → Args d (n + 1) ts (bareL (ts.take p) :: gs) rest
inductive NoA (d : Tks) : Nat → Tks → Prop
  | here {n : Nat} {ts : Tks} : (∀ q, ¬ Match d ts q) → NoA d (n + 1) ts
  | later {n p : Nat} {ts : Tks} : First d ts p → NoA d n (ts.drop (p + d.length)) → NoA d (n + 1) ts
theorem c_arguments {f dx r mc mdx : Addr} {ts d ps : Tks} {cnt : Nat} {par t : Int × Int} (b : Bs D) (ao : Ao A stk 7) (F : Fd σ f dx r ts) (M : Mc σ mc mdx ps ([] :: List.replicate cnt d)) (hpz : ps.length ≤ 300) (ht : ps.getLast? = some t) (ht1 : t.1 ≠ 1) (hcz : cnt ≤ 9)
    (hz : ts.length ≤ 300) (hd : d ≠ []) (hdl : ∀ x ∈ d, isL x) (hdz : d.length ≤ 100) (hw : wf false ts) (hpar : ∀ t ∈ ts, t ≠ par)
    (hX : NoA d cnt ts → ∀ v s', Fy D A stk v s' → X v s')
    (h : ∀ gs rest a σ', Args d cnt ts gs rest → Kp r σ σ' → σ' r = some (.lst (rest.map tk).reverse) → σ' a = some (.lst (gs.map fun g => .tup (g.map tk))) → σ a = none → Q (.ref a) σ') : Cl D A stk (.ref 260) [.ref mc, .ref f, tk par] σ X Q := by
  refine cl_def (names := [Str.ofString "macro", Str.ofString "feed", Str.ofString "par"]) (xs := [.ref mc, .ref f, tk par]) (ys := []) (ws := []) b ao rfl (by kernel_rfl) ?hb .nil ?hl ?body
  case hb =>
    intro s vs _ hv
    match vs, hv with
    | [x, y, z], _ => exact BindsTo.of_eq rfl
  case hl => rfl
  case body =>
    intro L hL A' hA ao'
    subst hA
    simp only [List.zip_cons_cons, List.zip_nil_right, List.append_nil, List.reverse_cons, List.reverse_nil, List.nil_append, List.cons_append] at ao' ⊢
    repeat walk_at "m1"
    refine ex_for_tup ao'.handled ?_ PassesOwn.leaving
    repeat walk_at "m1"
    refine ev_attr b (cs_macro _) (by rfl) tl_del ?_
    repeat walk_at "m1"
    refine ⟨mc, mdx, _, _, rfl, M.obj, M.dict, rfl, (by intro c q; cases q), ?_⟩
    repeat walk_at "m1"
    have hmr : mc ≠ r := fun q => by have := M.obj; rw [q, F.rest] at this; cases this
    have hdr : mdx ≠ r := fun q => by have := M.dict; rw [q, F.rest] at this; cases this
    refine sb_tup (j := 0) (x := V.tup []) (by decide) (by decide) (by unfold seqIndex?; simp) rfl ?_
    refine ⟨[], rfl, fun ys l σ' => ys = [] ∧ σ' = σ ∧ Sub [(Str.ofString "par", tk par), (Str.ofString "feed", .ref f), (Str.ofString "macro", .ref mc)] l, ⟨rfl, rfl, .cons rfl (.cons rfl (.cons rfl .nil))⟩, ?_, ?_⟩
    · rintro y ys l σ' ⟨hys, _⟩; cases hys
    · rintro l σ' ⟨_, rfl, hS⟩
      refine nx_loc hS ?_
      repeat walk_at "m1"
      intro a ha
      repeat walk_at "m1"
      have har : a ≠ r := fun q => by rw [q, F.rest] at ha; cases ha
      refine ex_for_tup ao'.handled ?_ PassesOwn.leaving
      repeat walk_at "m1"
      refine ev_attr b (cs_macro _) (by rfl) tl_del ?_
      repeat walk_at "m1"
      have hma : mc ≠ a := fun q => by have := M.obj; rw [q, ha] at this; cases this
      have hda : mdx ≠ a := fun q => by have := M.dict; rw [q, ha] at this; cases this
      refine ⟨mc, mdx, _, _, rfl, (by rw [upd_ne _ _ hma]; exact M.obj), (by rw [upd_ne _ _ hda]; exact M.dict), rfl, (by intro c q; cases q), ?_⟩
      repeat walk_at "m1"
      refine sl_tup (show PartN (V.int 1) (some 1) from .int 1) .none (size_le (by simp; omega)) ?_
      rw [cut_from]
      refine ⟨_, rfl, fun ys l σ₁ => ∃ (k : Nat) (gs : List Tks) (tsk : Tks), ys = List.replicate k (V.tup (d.map tk)) ∧ k + gs.length ≤ 9 ∧ (∀ gs' rest, Args d k tsk gs' rest → Args d cnt ts (gs ++ gs') rest) ∧ (NoA d k tsk → NoA d cnt ts) ∧ wf false tsk ∧ tsk.length ≤ 300 ∧ (∀ t ∈ tsk, t ≠ par) ∧
        Kp r σ' σ₁ ∧ σ₁ r = some (.lst (tsk.map tk).reverse) ∧ σ₁ a = some (.lst (gs.map fun g => .tup (g.map tk))) ∧ Sub [(Str.ofString "found", .ref a), (Str.ofString "par", tk par), (Str.ofString "feed", .ref f), (Str.ofString "macro", .ref mc)] l,
        ⟨cnt, [], ts, by simp, by simpa using hcz, fun _ _ e => e, fun e => e, hw, hz, hpar, (Kp.refl _ _).updn ha, by rw [upd_ne _ _ har.symm]; exact F.rest, upd_self _ _ _, .cons rfl (.cons rfl (.cons rfl (.cons rfl .nil)))⟩, ?_, ?_⟩
      · rintro y ys l σ₁ ⟨k, gs, tsk, hys, hk9, hA1, hA2, hwk, hzk, hpk, hK, hr1, ha1, hS⟩
        cases k with
        | zero => cases hys
        | succ k =>
          rw [List.replicate_succ] at hys
          injection hys with h1 h2
          subst h1 h2
          refine exs_loc (.head hS) ?_
          repeat walk_at "m1"
          refine ⟨a, _, rfl, ha1, ?_⟩
          repeat walk_at "m1"
          refine ev_attr b (cs_macro _) (by rfl) tl_long ?_
          repeat walk_at "m1"
          refine ⟨mc, mdx, _, _, rfl, hK _ _ hmr M.obj, hK _ _ hdr M.dict, rfl, (by intro c q; cases q), ?_⟩
          repeat walk_at "m1"
          refine c_argument b ao'.loc (F.kp hK hr1) hzk hd hdl hdz hwk hpk (fun hno v s' hy => fly_leave rfl hy (hX (hA2 (.here hno)))) (fun p σ₂ hF hw2 hK2 hr2 => ?_)
          repeat walk_at "m1"
          have ha2 := hK2 _ _ har ha1
          refine cl_append ha2 (size_le (by simp; omega)) ?_
          repeat walk_at "m1"
          refine ⟨k, gs ++ [bareL (tsk.take p)], tsk.drop (p + d.length), rfl, by simp; omega, fun gs' rest e => ?_, fun e => hA2 (.later hF e), hw2, by rw [List.length_drop]; omega, fun t ht => hpk t (List.mem_of_mem_drop ht), (hK.trans hK2).updn ha, by rw [upd_ne _ _ har.symm]; exact hr2, by rw [upd_self]; simp, .cons rfl (.cons rfl (.cons rfl (.cons rfl .nil)))⟩
          rw [List.append_assoc]
          exact hA1 _ _ (.succ hF e)
      · rintro l σ₁ ⟨k, gs, tsk, hys, hk9, hA1, hA2, hwk, hzk, hpk, hK, hr1, ha1, hS⟩
        cases k with
        | succ k => cases hys
        | zero =>
          refine nx_loc hS ?_
          repeat walk_at "m1"
          refine ev_imeth b (cs_macro _) (by rfl) ⟨_, rfl, rfl⟩ (by kernel_rfl) (y := none) (by rw [typeLookup_type, builtinLookup_eq_fast]; kernel_rfl) ?_
          repeat walk_at "m1"
          refine ⟨mc, mdx, _, rfl, hK _ _ hmr M.obj, hK _ _ hdr M.dict, rfl, ?_⟩
          repeat walk_at "m1"
          refine c_has_brace b ao'.loc ⟨hK _ _ hmr M.obj, hK _ _ hdr M.dict⟩ hpz ht ht1 ?_
          repeat walk_at "m1"
          have := hA1 [] tsk (.zero _)
          rw [List.append_nil] at this
          exact h gs tsk a σ₁ this hK hr1 ha1 ha
end
section
variable {D : Wd} {A : Around} {stk : List (Env × Loc)} {env : Env} {l l' : Loc} {σ σ' : Sto} {s s' : Shared} {X : Value → Shared → Prop} {Q : V → Sto → Prop}
theorem ev_cut {e : Expr} {P : V → Sto → Prop} (h : Ev D A stk env e σ X P) (k : ∀ v σ', P v σ' → Q v σ') : Ev D A stk env e σ X Q := fun s G => wpAny_mono (h s G) (fun _ _ ⟨x, σ', q, r⟩ => ⟨x, σ', k _ _ q, r⟩) fun _ _ e => e
theorem c_cell {a : Addr} {ns : List Int} {k : Nat} (b : Bs D) (ao : Ao A stk 1) (ha : σ a = some (.lst (ns.map V.int))) (hz : ns.length ≤ 100) (hk : k ≤ 100)
    (h : ∀ c σ' w m, Sup σ σ' → σ c = none → σ' c = some (.lst [.int w, .int 0, .int m]) → 0 ≤ w → 0 ≤ m → m < 1000003 → Q (.ref c) σ') : Cl D A stk (.ref 265) [.ref a, .int (k : Int)] σ X Q := by
  refine cl_def (names := [Str.ofString "script", Str.ofString "k"]) (xs := [.ref a, .int (k : Int)]) (ys := []) (ws := []) b ao rfl (by kernel_rfl) ?hb .nil ?hl ?body
  case hb =>
    intro s vs _ hv
    match vs, hv with
    | [x, y], _ => exact BindsTo.of_eq rfl
  case hl => rfl
  case body =>
    intro L hL A' hA ao'
    subst hA
    simp only [List.zip_cons_cons, List.zip_nil_right, List.append_nil, List.reverse_cons, List.reverse_nil, List.nil_append, List.cons_append] at ao' ⊢
    refine exs_cons (ex_assign (ev_cut (P := fun v σ' => ∃ i, v = .int i ∧ Sup σ σ') ?_ ?key))
    repeat walk_at "m1"
    refine cl_len_list ha (size_le (by simp; omega)) ?_
    repeat walk_at "m1"
    refine ifb (fun hx => ?_) (fun hx => ?_)
    · have hlt : k < ns.length := by simpa using hx
      repeat walk_at "m1"
      refine sb_list (x := .int ns[k]) ha (by omega) (by omega) (by rw [Int.toNat_natCast, List.getElem?_map, List.getElem?_eq_getElem hlt]; rfl) ?_
      exact ⟨_, rfl, .refl _⟩
    · repeat walk_at "m1"
      refine op_mul (mul_ok (by decide) (by decide)) ?_
      repeat walk_at "m1"
      refine ev_comp_list [] ao'.handled (by rfl) ?_
      repeat walk_at "m1"
      refine ⟨a, _, rfl, ha, fun ad had => ⟨fun ys ac σ'' => ∃ (us vs : List Int), ys = us.map V.int ∧ ac = vs.map V.int ∧ us.length + vs.length ≤ 100 ∧ σ'' = upd σ ad (.lst ac), ⟨ns, [], rfl, rfl, by simpa using hz, rfl⟩, ?_, ?_, ?_⟩⟩
      · rintro ys ac σ'' ⟨us, vs, _, _, _, rfl⟩
        rw [upd_ne _ _ (fun q => by rw [q, had] at ha; cases ha)]; exact ha
      · rintro y ys ac σ'' C lc X' ⟨us, vs, hys, rfl, hz2, rfl⟩
        cases us with
        | nil => cases hys
        | cons u us =>
          simp only [List.map_cons] at hys
          injection hys with h1 h2
          subst h1 h2
          refine ts_nil (ift ?_)
          repeat walk_at "m1"
          refine cl_abs ?_
          exact ⟨upd_self _ _ _, size_le (by simp at hz2 ⊢; omega), us, vs ++ [_], rfl, (by rw [List.map_append]; rfl), by simp at hz2 ⊢; omega, upd_upd _ _ _ _⟩
      · rintro ac σ'' ⟨us, vs, hys, rfl, hz2, rfl⟩
        repeat walk_at "m1"
        refine cl_sum ao'.handled (upd_self _ _ _) ?_
        repeat walk_at "m1"
        refine op_mod (by decide) ?_
        repeat walk_at "m1"
        have h0 : 0 ≤ Int.fmod vs.sum 1000003 := Int.fmod_nonneg_of_pos _ (by decide)
        have h1 : Int.fmod vs.sum 1000003 < 1000003 := Int.fmod_lt_of_pos _ (by decide)
        refine op_mul (mul_ok (by omega) (by omega)) ?_
        repeat walk_at "m1"
        exact ⟨_, rfl, .new had⟩
    case key =>
      rintro _ σ' ⟨cell, rfl, hs⟩
      repeat walk_at "m1"
      refine cl_abs ?_
      repeat walk_at "m1"
      refine op_mul (mul_ok (by decide) (by decide)) ?_
      repeat walk_at "m1"
      refine cl_int_bool ?_
      repeat walk_at "m1"
      refine op_mod (by decide) ?_
      repeat walk_at "m1"
      intro c hc
      repeat walk_at "m1"
      refine h c _ _ _ (hs.trans (.new hc)) ?_ (upd_self _ _ _) ?_ (Int.fmod_nonneg_of_pos _ (by decide)) (Int.fmod_lt_of_pos _ (by decide))
      · cases q : σ c with
        | none => rfl
        | some o => have := hs _ _ q; rw [hc] at this; cases this
      · split <;> split <;> omega
end
section
variable {D : Wd} {A : Around} {stk : List (Env × Loc)} {env : Env} {l l' : Loc} {σ σ' : Sto} {s s' : Shared} {X : Value → Shared → Prop} {Q : V → Sto → Prop}
/-- a source, so often asked at most -/
def Src (σ : Sto) (a : Addr) (k : Int) : Prop := ∃ w c m : Int, σ a = some (.lst [.int w, .int c, .int m]) ∧ 0 ≤ w ∧ 0 ≤ c ∧ c ≤ k ∧ 0 ≤ m ∧ m < 1000003
theorem c_take' {a : Addr} {k many : Int} (b : Bs D) (ao : Ao A stk 1) (hs : Src σ a k) (hk : k ≤ 1000) (hmany : 1 ≤ many ∧ many < 2 ^ 63)
    (h : ∀ r σ', 0 ≤ r → r < many → Src σ' a (k + 1) → Kp a σ σ' → Q (.int r) σ') : Cl D A stk (.ref 272) [.ref a, .int many] σ X Q := by
  obtain ⟨w, c, m, hs, hw, hc, hck, hm, hm2⟩ := hs
  exact c_take b ao hs hw ⟨hc, by omega⟩ ⟨hm, hm2⟩ hmany fun r w' c' h1 h2 h3 h4 h5 => h r _ h1 h2 ⟨w', c', m, upd_self _ _ _, h3, h4, by omega, hm, hm2⟩ Kp.updr
theorem Ao.comp {n m : Nat} {p : Env × Loc} (a : Ao A stk n) (h : m ≤ n := by omega) : Ao A (p :: stk) m := by
  obtain ⟨h1, ⟨fs, h2, h3⟩, h4, h5⟩ := a
  exact ⟨h1, ⟨fs, h2, fun e he => ⟨.tail _ (h3 e he).1, (h3 e he).2⟩⟩, by omega, by omega⟩
/-- letters a and b -/
def Ltr (t : Int × Int) : Prop := t.1 = 11 ∧ (t.2 = 97 ∨ t.2 = 98)
theorem c_letters {a : Addr} {k : Int} {many : Nat} (b : Bs D) (ao : Ao A stk 3) (hs : Src σ a k) (hk : k + many ≤ 1000) (hk0 : many ≤ 100)
    (h : ∀ c σ' (ls : Tks), ls.length = many → (∀ t ∈ ls, Ltr t) → Src σ' a (k + many) → Kp a σ σ' → σ c = none → σ' c = some (.lst (ls.map tk)) → Q (.ref c) σ') : Cl D A stk (.ref 277) [.ref a, .int (many : Int)] σ X Q := by
  refine cl_defC (names := [Str.ofString "source", Str.ofString "many"]) (xs := [.ref a, .int (many : Int)]) b ao rfl (by kernel_rfl) ?hb ?hk2 ?hnd [(Str.ofString "many", V.int (many : Int))] (fun _ => some (V.ref a)) ?hm ?hc ?body
  case hb =>
    intro vs hv
    match vs, hv with
    | [x, y], _ => rfl
  case hk2 =>
    intro k x hx
    simp only [List.mem_cons, List.not_mem_nil, or_false] at hx
    rcases hx with rfl | rfl
    · exact .inr ⟨by rfl, by rfl⟩
    · exact .inl (by rfl)
  case hnd => decide
  case hm =>
    intro hp vs L R
    cases R with | cons r1 R => cases R with | cons r2 R =>
      cases R
      intro y v e
      rw [List.lookup_cons] at e
      by_cases q : (y == Str.ofString "many") = true
      · rw [q] at e; cases e
        rw [beq_iff_eq.mp q]
        exact ⟨_, rfl, r2⟩
      · rw [Bool.not_eq_true] at q; rw [q] at e; cases e
  case hc =>
    intro hp vs L R p hpc
    cases R with | cons r1 R => cases R with | cons r2 R =>
      cases R
      have hpc' : p ∈ [(Str.ofString "source", L + 1)] := hpc
      rw [List.mem_singleton.mp hpc']
      exact ⟨_, rfl, r1⟩
  case body =>
    intro L hL hcell A' ao'
    have hc0 : σ (L + 1) = none := hcell (Str.ofString "source", L + 1) (.head _)
    show Exs _ _ _ _ _ _ (upd σ (L + 1) (O.cell (some (V.ref a)))) _ _
    have hac : a ≠ L + 1 := fun q => by obtain ⟨w, c, m, h1, _⟩ := hs; rw [q, hc0] at h1; cases h1
    refine exs_cons (ex_return ?_)
    refine ev_comp_range b _ ao'.handled rfl ?_ (by rfl)
    repeat walk_at "m1"
    refine ⟨0, many, .inr ⟨rfl, rfl⟩, by omega, by omega, by omega, by omega, fun ad had => ⟨fun ys ac σ'' => ∃ (n : Nat) (ls : Tks), n + ls.length = many ∧ ys.length = n ∧ ac = ls.map tk ∧ (∀ t ∈ ls, Ltr t) ∧ Src σ'' a (k + ls.length) ∧ Kp a σ σ'' ∧ σ'' ad = some (.lst (ls.map tk)) ∧ σ'' (L + 1) = some (.cell (some (.ref a))), ?_, ?_, ?_⟩⟩
    · obtain ⟨w, c, m, h1, h2⟩ := hs
      have h3 : a ≠ ad := fun q => by rw [← q, upd_ne _ _ hac, h1] at had; cases had
      have h4 : L + 1 ≠ ad := fun q => by rw [← q, upd_self] at had; cases had
      refine ⟨many, [], by simp, by simp [rgI], rfl, by simp, ⟨w, c, m, by rw [upd_ne _ _ h3, upd_ne _ _ hac]; exact h1, by simpa using h2⟩, Kp.updn (Kp.updn (Kp.refl _ _) hc0) ?_, upd_self _ _ _, by rw [upd_ne _ _ h4, upd_self]⟩
      rw [upd_ne _ _ h4.symm] at had; exact had
    · rintro y ys ac σ'' C lc X' ⟨n, ls, hn, hys, rfl, hls, hsrc, hK, had2, hcl⟩
      refine ts_nil (ift ?_)
      simp only [List.length_cons] at hys
      have h3 : ad ≠ a := fun q => by obtain ⟨w, c, m, h1, _⟩ := hs; rw [q, upd_ne _ _ hac, h1] at had; cases had
      repeat walk_at "m1"
      refine c_take' b (ao'.comp (by omega)) hsrc (by omega) ⟨by decide, by decide⟩ (fun r σ₃ h0 h2 hsrc3 hK3 => ?_)
      repeat walk_at "m1"
      refine ⟨hK3 _ _ h3 had2, size_le (by simp; omega), n - 1, ls ++ [(11, 97 + r)], by simp; omega, by omega, by rw [List.map_append]; rfl, fun t ht => ?_, ?_, ?_, by rw [upd_self, List.map_append]; rfl, ?_⟩
      · rcases List.mem_append.mp ht with ht | ht
        · exact hls t ht
        · rw [List.mem_singleton.mp ht]
          exact ⟨rfl, by show 97 + r = 97 ∨ 97 + r = 98; omega⟩
      · obtain ⟨w, c, m, h1, h4, h5, h6, h7⟩ := hsrc3
        refine ⟨w, c, m, by rw [upd_ne _ _ h3.symm]; exact h1, h4, h5, ?_, h7⟩
        simp only [List.length_append, List.length_cons, List.length_nil]; push_cast; omega
      · refine Kp.updn (hK.trans hK3) ?_
        have h4 : ad ≠ L + 1 := fun q => by rw [q, upd_self] at had; cases had
        rw [upd_ne _ _ h4] at had; exact had
      · have h4 : L + 1 ≠ ad := fun q => by rw [← q, upd_self] at had; cases had
        rw [upd_ne _ _ h4]
        exact hK3 _ _ hac.symm hcl
    · rintro ac σ'' ⟨n, ls, hn, hys, rfl, hls, hsrc, hK, had2, hcl⟩
      repeat walk_at "m1"
      have hn0 : n = 0 := by simpa using hys.symm
      subst hn0
      have h4 : ad ≠ L + 1 := fun q => by rw [q, upd_self] at had; cases had
      rw [upd_ne _ _ h4] at had
      have hlen : ls.length = many := by omega
      exact h ad σ'' ls hlen hls (hlen ▸ hsrc) hK had had2
/-- all letters have codes that fit -/
theorem Ltr.isL {t : Int × Int} (h : Ltr t) : isL t := h.1
theorem Ltr.tok {t : Int × Int} (h : Ltr t) : Tok t := ⟨.inl h.1, by rcases h.2 with h | h <;> omega, by rcases h.2 with h | h <;> omega⟩
theorem Src.mono {a : Addr} {k k' : Int} (h : Src σ a k) (hk : k ≤ k') : Src σ a k' := let ⟨w, c, m, h1, h2, h3, h4, h5⟩ := h; ⟨w, c, m, h1, h2, h3, by omega, h5⟩
theorem Src.new {a b : Addr} {k : Int} {o : O} (h : Src σ a k) (hb : σ b = none) : Src (upd σ b o) a k := let ⟨w, c, m, h1, h2⟩ := h; ⟨w, c, m, by rw [upd_ne _ _ (fun q => by rw [q, hb] at h1; cases h1)]; exact h1, h2⟩
theorem c_delim {a : Addr} {k : Int} (b : Bs D) (ao : Ao A stk 4) (hs : Src σ a k) (hk : k ≤ 100)
    (h : ∀ c σ' (d : Tks), d ≠ [] → d.length ≤ 9 → (∀ t ∈ d, Ltr t) → Src σ' a (k + 20) → Kp a σ σ' → σ c = none → σ' c = some (.lst (d.map tk)) → Q (.ref c) σ') : Cl D A stk (.ref 284) [.ref a] σ X Q := by
  refine cl_def (names := [Str.ofString "source"]) (xs := [.ref a]) (ys := []) (ws := []) b ao rfl (by kernel_rfl) ?hb .nil ?hl ?body
  case hb =>
    intro s vs _ hv
    match vs, hv with
    | [x], _ => exact BindsTo.of_eq rfl
  case hl => rfl
  case body =>
    intro L hL A' hA ao'
    subst hA
    simp only [List.zip_cons_cons, List.zip_nil_right, List.append_nil, List.reverse_cons, List.reverse_nil, List.nil_append, List.cons_append] at ao' ⊢
    repeat walk_at "m1"
    refine c_take' b ao'.loc hs (by omega) ⟨by decide, by decide⟩ (fun r1 σ1 h0 h1 hs1 hK1 => ?_)
    obtain ⟨n1, rfl⟩ : ∃ n : Nat, r1 = n := ⟨r1.toNat, by omega⟩
    repeat walk_at "m1"
    refine c_take' b ao'.loc hs1 (by omega) ⟨by decide, by decide⟩ (fun r2 σ2 h2 h3 hs2 hK2 => ?_)
    repeat walk_at "m1"
    rw [show (1 : Int) + (n1 : Int) = ((n1 + 1 : Nat) : Int) by push_cast; omega]
    refine ifb (fun hx => ?_) (fun hx => ?_)
    · repeat walk_at "m1"
      refine c_letters b ao'.loc hs2 (by omega) (by omega) (fun c σ3 ls hl hls hs3 hK3 hc0 hc => ?_)
      repeat walk_at "m1"
      have hK := (hK1.trans hK2).trans hK3
      refine h c σ3 ls (fun q => by rw [q] at hl; simp at hl) (by omega) hls (hs3.mono (by omega)) hK ?_ hc
      cases q : σ c with
      | none => rfl
      | some o =>
        by_cases hca : c = a
        · obtain ⟨w, c', m, h4, _⟩ := hs2
          rw [hca, h4] at hc0; cases hc0
        · have := (hK1.trans hK2) c o hca q
          rw [hc0] at this; cases this
    · repeat walk_at "m1"
      refine c_take' b ao'.loc hs2 (by omega) ⟨by decide, by decide⟩ (fun r3 σ3 h4 h5 hs3 hK3 => ?_)
      obtain ⟨n3, rfl⟩ : ∃ n : Nat, r3 = n := ⟨r3.toNat, by omega⟩
      repeat walk_at "m1"
      rw [show (1 : Int) + (n3 : Int) = ((n3 + 1 : Nat) : Int) by push_cast; omega]
      refine c_letters b ao'.loc hs3 (by omega) (by omega) (fun c σ4 ls hl hls hs4 hK4 hc0 hc => ?_)
      repeat walk_at "m1"
      refine op_rep hc (fun q => by have := congrArg List.length q; simp at this; rw [this] at hl; simp at hl) (by omega) (by omega) (by simp; rw [hl]; have : (n3 + 1) * (n1 + 1) ≤ 4 * 9 := Nat.mul_le_mul (by omega) (by omega); omega) (fun b2 hb2 => ?_)
      repeat walk_at "m1"
      refine sl_list (upd_self _ _ _) .none (.int _) .none (by decide) ?_ (fun b3 hb3 => ?_)
      · rw [Int.toNat_natCast]; simp; rw [hl]; have : (n1 + 1) * (n3 + 1) ≤ 9 * 4 := Nat.mul_le_mul (by omega) (by omega)
        exact sz_le (by omega)
      rw [pick_to, Int.toNat_natCast]
      repeat walk_at "m1"
      have e : (List.replicate (n1 + 1) (ls.map tk)).flatten.take (n1 + 1) = ((List.replicate (n1 + 1) ls).flatten.take (n1 + 1)).map tk := by
        rw [List.map_take, List.map_flatten, List.map_replicate]
      have hlen : ((List.replicate (n1 + 1) ls).flatten.take (n1 + 1)).length = n1 + 1 := by
        rw [List.length_take, List.length_flatten]
        simp only [List.map_replicate, List.sum_replicate_nat, hl]
        have : (n1 + 1) * 1 ≤ (n1 + 1) * (n3 + 1) := Nat.mul_le_mul (Nat.le_refl _) (by omega)
        omega
      rw [e]
      have hK : Kp a σ σ4 := ((hK1.trans hK2).trans hK3).trans hK4
      have none_of : ∀ {c : Addr}, σ4 c = none → σ c = none := fun {c} hc => by
        cases q : σ c with
        | none => rfl
        | some o =>
          by_cases hca : c = a
          · obtain ⟨w, c', m, h6, _⟩ := hs4
            rw [hca, h6] at hc; cases hc
          · have := hK c o hca q
            rw [hc] at this; cases this
      have h32 : b3 ≠ b2 := fun q => by rw [q, upd_self] at hb3; cases hb3
      rw [upd_ne _ _ h32] at hb3
      refine h b3 _ ((List.replicate (n1 + 1) ls).flatten.take (n1 + 1)) (fun q => by rw [q] at hlen; simp at hlen) (by omega) (fun t ht => ?_) (Src.new (Src.new (hs4.mono (by omega)) hb2) (by rw [upd_ne _ _ h32]; exact hb3)) (Kp.updn (Kp.updn hK (none_of hb2)) (none_of hb3)) (none_of hb3) (upd_self _ _ _)
      have := List.mem_of_mem_take ht
      obtain ⟨l', h6, h7⟩ := List.mem_flatten.mp this
      rw [(List.mem_replicate.mp h6).2] at h7
      exact hls t h7
end
section
variable {D : Wd} {A : Around} {stk : List (Env × Loc)} {env : Env} {l l' : Loc} {σ σ' : Sto} {s s' : Shared} {X : Value → Shared → Prop} {Q : V → Sto → Prop}
theorem wf_app {f : Tks} {n : Nat} (h : Its f n) : ∀ g, wf false g → wf false (f ++ g) := by
  induction h with
  | nil => intro g hg; exact hg
  | letter _ hl ih =>
    intro g hg
    rw [List.append_assoc]
    exact ih _ (.inl ⟨hl, hg⟩)
  | @group f ls n _ hl ih =>
    intro g hg
    rw [List.append_assoc]
    refine ih _ (.inr (.inl ⟨rfl, rfl, ?_⟩))
    show wf true ((ls ++ [cls]) ++ g)
    clear ih
    induction ls with
    | nil => exact .inr (.inr ⟨rfl, rfl, hg⟩)
    | cons t ls ih2 => exact .inl ⟨hl t (.head _), ih2 fun x hx => hl x (.tail _ hx)⟩
theorem wf_take : ∀ {ts : Tks} {g : Bool} (k : Nat), wf g ts → wf g (ts.take k) := by
  intro ts
  induction ts with
  | nil => intro g k h; simp; exact h
  | cons t ts ih =>
    intro g k h
    cases k with
    | zero => exact trivial
    | succ k =>
      rw [List.take_succ_cons]
      rcases h with ⟨h1, h2⟩ | ⟨h1, h2, h3⟩ | ⟨h1, h2, h3⟩
      · exact .inl ⟨h1, ih k h2⟩
      · exact .inr (.inl ⟨h1, h2, ih k h3⟩)
      · exact .inr (.inr ⟨h1, h2, ih k h3⟩)
theorem tok_opn : Tok opn := ⟨.inr (.inl rfl), by decide, by decide⟩
theorem tok_cls : Tok cls := ⟨.inr (.inr rfl), by decide, by decide⟩
theorem Kp.none {a c : Addr} (h : Kp a σ σ') (hc : σ' c = none) (ha : σ' a ≠ none) : σ c = none := by
  cases q : σ c with
  | none => rfl
  | some o =>
    by_cases hca : c = a
    · rw [hca] at hc; exact absurd hc ha
    · have := h c o hca q
      rw [hc] at this; cases this
theorem Src.ne {a : Addr} {k : Int} (h : Src σ a k) : σ a ≠ none := fun q => by obtain ⟨w, c, m, h1, _⟩ := h; rw [q] at h1; cases h1
theorem c_text {a dl : Addr} {k : Int} {d : Tks} (b : Bs D) (ao : Ao A stk 4) (hs : Src σ a k) (hk : k ≤ 200) (hdl : σ dl = some (.lst (d.map tk))) (hd : d ≠ []) (hdz : d.length ≤ 9) (hL : ∀ t ∈ d, Ltr t)
    (h : ∀ c σ' (ts : Tks), wf false ts → (∀ t ∈ ts, Tok t) → ts.length ≤ 30 → Src σ' a (k + 60) → Kp a σ σ' → σ c = none → σ' c = some (.lst (ts.map tk)) → Q (.ref c) σ') : Cl D A stk (.ref 291) [.ref a, .ref dl] σ X Q := by
  refine cl_def (names := [Str.ofString "source", Str.ofString "delimiter"]) (xs := [.ref a, .ref dl]) (ys := []) (ws := []) b ao rfl (by kernel_rfl) ?hb .nil ?hl ?body
  case hb =>
    intro s vs _ hv
    match vs, hv with
    | [x, y], _ => exact BindsTo.of_eq rfl
  case hl => rfl
  case body =>
    intro L hL0 A' hA ao'
    subst hA
    simp only [List.zip_cons_cons, List.zip_nil_right, List.append_nil, List.reverse_cons, List.reverse_nil, List.nil_append, List.cons_append] at ao' ⊢
    have hda : dl ≠ a := fun q => by obtain ⟨w, c, m, h1, _⟩ := hs; rw [q, h1] at hdl; cases d with
      | nil => exact hd rfl
      | cons t d => simp at hdl
    have hdpos : 0 < d.length := List.length_pos_iff.mpr hd
    repeat walk_at "m1"
    intro fa hfa
    repeat walk_at "m1"
    have hfaa : fa ≠ a := fun q => by rw [q] at hfa; exact hs.ne hfa
    have hfd : fa ≠ dl := fun q => by rw [q, hdl] at hfa; cases hfa
    refine ex_for_range b ao'.handled ?_ PassesOwn.leaving (by rfl)
    repeat walk_at "m1"
    refine c_take' b ao'.loc (hs.new hfa) (by omega) ⟨by decide, by decide⟩ (fun r1 σ1 h0 h1 hs1 hK1 => ?_)
    repeat walk_at "m1"
    refine ⟨0, r1, .inr ⟨rfl, rfl⟩, by omega, by omega, by omega, by omega, fun ys l σ' => ∃ (j n : Nat) (found : Tks), ys.length = j ∧ j ≤ 6 ∧ Its found n ∧ (∀ t ∈ found, Tok t) ∧ found.length ≤ (6 - j) * 11 ∧ Src σ' a (k + 1 + 5 * (6 - j : Nat)) ∧ Kp a σ σ' ∧ σ' fa = some (.lst (found.map tk)) ∧
      Sub [(Str.ofString "found", .ref fa), (Str.ofString "delimiter", .ref dl), (Str.ofString "source", .ref a)] l, ⟨r1.toNat, 0, [], by simp [rgI], by omega, .nil, by simp, by simp, hs1.mono (by omega), (Kp.updn (Kp.refl _ _) hfa).trans hK1, ?_, .cons rfl (.cons rfl (.cons rfl .nil))⟩, ?_, ?_⟩
    · rw [hK1 fa _ hfaa (upd_self _ _ _)]; rfl
    · rintro y ys l σ' ⟨j, n, found, hj, hj6, hits, htok, hlen, hsrc, hK, hf, hS⟩
      simp only [List.length_cons] at hj
      obtain ⟨j, rfl⟩ : ∃ i, j = i + 1 := ⟨j - 1, by omega⟩
      have hj' : ys.length = j := by omega
      have e6 : 6 - j = (6 - (j + 1)) + 1 := by omega
      generalize hi : 6 - (j + 1) = i at *
      refine exs_loc (.head hS) ?_
      have hd1 : σ' dl = some (.lst (d.map tk)) := hK _ _ hda hdl
      have fin : ∀ (g : Tks) (σ2 : Sto) (l2 : Loc), (∃ n2, Its (found ++ g) n2) → (∀ t ∈ g, Tok t) → g.length ≤ 11 → Src σ2 a (k + 1 + 5 * (i : Nat) + 5) → Kp a σ σ2 →
          Sub [(Str.ofString "found", .ref fa), (Str.ofString "delimiter", .ref dl), (Str.ofString "source", .ref a)] l2 → σ2 fa = some (.lst (found.map tk ++ g.map tk)) →
          ∃ (j n : Nat) (found : Tks), ys.length = j ∧ j ≤ 6 ∧ Its found n ∧ (∀ t ∈ found, Tok t) ∧ found.length ≤ (6 - j) * 11 ∧ Src σ2 a (k + 1 + 5 * (6 - j : Nat)) ∧ Kp a σ σ2 ∧ σ2 fa = some (.lst (found.map tk)) ∧
          Sub [(Str.ofString "found", .ref fa), (Str.ofString "delimiter", .ref dl), (Str.ofString "source", .ref a)] l2 := by
        rintro g σ2 l2 ⟨n2, hi2⟩ hg1 hg2 hs2 hK2 hS2 hf2
        refine ⟨j, n2, found ++ g, hj', by omega, hi2, fun t ht => ?_, by rw [List.length_append, e6, Nat.add_mul]; omega, hs2.mono (by rw [e6]; push_cast; omega), hK2, by rw [hf2, List.map_append], hS2⟩
        rcases List.mem_append.mp ht with ht | ht
        · exact htok t ht
        · exact hg1 t ht
      repeat walk_at "m1"
      refine c_take' b ao'.loc hsrc (by omega) ⟨by decide, by decide⟩ (fun r2 σ2 h2 h3 hs2 hK2 => ?_)
      repeat walk_at "m1"
      have hf2 := hK2 _ _ hfaa hf
      have hd2 := hK2 _ _ hda hd1
      have hKK := hK.trans hK2
      have hmul : i * 11 ≤ 66 := by omega
      refine ifb (fun hx => ?_) (fun hx => ?_)
      · repeat walk_at "m1"
        refine ⟨fa, _, rfl, hf2, ?_⟩
        repeat walk_at "m1"
        refine cl_len_list hd2 (size_le (by simp; omega)) ?_
        repeat walk_at "m1"
        refine c_take' b ao'.loc hs2 (by omega) ⟨by simp; omega, by simp; omega⟩ (fun r3 σ3 h4 h5 hs3 hK3 => ?_)
        rw [List.length_map] at h5
        obtain ⟨n3, rfl⟩ : ∃ n : Nat, r3 = n := ⟨r3.toNat, by omega⟩
        repeat walk_at "m1"
        rw [show (1 : Int) + (n3 : Int) = ((n3 + 1 : Nat) : Int) by push_cast; omega]
        have hf3 := hK3 _ _ hfaa hf2
        have hd3 := hK3 _ _ hda hd2
        refine sl_list hd3 .none (.int _) .none (by decide) (size_le (by simp; omega)) (fun b3 hb3 => ?_)
        rw [pick_to, ← List.map_take]
        have hfb : fa ≠ b3 := fun q => by rw [q, hb3] at hf3; cases hf3
        repeat walk_at "m1"
        refine cl_extend (by rw [upd_ne _ _ hfb]; exact hf3) (upd_self _ _ _) (sz_le (by simp; omega)) ?_
        repeat walk_at "m1"
        have hKa : Kp a σ (upd σ3 b3 (.lst ((d.take (n3 + 1)).map tk))) := Kp.updn (hKK.trans hK3) ((hKK.trans hK3).none hb3 hs3.ne)
        refine fin (d.take (n3 + 1)) _ _ ⟨_, hits.letters fun t ht => (hL t (List.mem_of_mem_take ht)).isL⟩ (fun t ht => (hL t (List.mem_of_mem_take ht)).tok) (by simp; omega) ?_ (hKa.updn hfa) (.cons rfl (.cons rfl (.cons rfl .nil))) (upd_self _ _ _)
        obtain ⟨w, c, m, g1, g2⟩ := hs3.new (o := .lst ((d.take (n3 + 1)).map tk)) hb3
        exact ⟨w, c, m, by rw [upd_ne _ _ hfaa.symm]; exact g1, g2.1, g2.2.1, by omega, g2.2.2.2⟩
      · repeat walk_at "m1"
        refine ifb (fun hx => ?_) (fun hx => ?_)
        · repeat walk_at "m1"
          refine ⟨fa, _, rfl, hf2, ?_⟩
          repeat walk_at "m1"
          refine cl_extend hf2 hd2 (sz_le (by simp; omega)) ?_
          repeat walk_at "m1"
          refine fin d _ _ ⟨_, hits.letters fun t ht => (hL t ht).isL⟩ (fun t ht => (hL t ht).tok) (by omega) ?_ (hKK.updn hfa) (.cons rfl (.cons rfl (.cons rfl .nil))) (upd_self _ _ _)
          obtain ⟨w, c, m, g1, g2⟩ := hs2
          exact ⟨w, c, m, by rw [upd_ne _ _ hfaa.symm]; exact g1, g2.1, g2.2.1, by omega, g2.2.2.2⟩
        · repeat walk_at "m1"
          refine ifb (fun hx => ?_) (fun hx => ?_)
          · repeat walk_at "m1"
            refine ⟨fa, _, rfl, hf2, ?_⟩
            repeat walk_at "m1"
            intro c1 hc1
            repeat walk_at "m1"
            have hd1c : dl ≠ c1 := fun q => by rw [q, hc1] at hd2; cases hd2
            refine op_cat (upd_self _ _ _) (by rw [upd_ne _ _ hd1c]; exact hd2) (sz_le (by simp; omega)) (fun c2 hc2 => ?_)
            repeat walk_at "m1"
            intro c3 hc3
            repeat walk_at "m1"
            have h23 : c2 ≠ c3 := fun q => by rw [q, upd_self] at hc3; cases hc3
            refine op_cat (by rw [upd_ne _ _ h23, upd_self]) (upd_self _ _ _) (sz_le (by simp; omega)) (fun c4 hc4 => ?_)
            repeat walk_at "m1"
            have s1 := (((Sup.new (o := O.lst [V.tup [V.int 1, V.int 123]]) hc1).trans (Sup.new (o := O.lst ([V.tup [V.int 1, V.int 123]] ++ d.map tk)) hc2)).trans (Sup.new (o := O.lst [V.tup [V.int 2, V.int 125]]) hc3)).trans (Sup.new (o := O.lst (([V.tup [V.int 1, V.int 123]] ++ d.map tk) ++ [V.tup [V.int 2, V.int 125]])) hc4)
            have hf4 := s1 _ _ hf2
            have e : (([V.tup [V.int 1, V.int 123]] ++ d.map tk) ++ [V.tup [V.int 2, V.int 125]]) = (opn :: d ++ [cls]).map tk := by simp [opn, cls]
            rw [e] at hf4 s1 ⊢
            refine cl_extend hf4 (upd_self _ _ _) (sz_le (by simp; omega)) ?_
            repeat walk_at "m1"
            have hsup : Kp a σ _ := hKK.trans (fun c o _ q => s1 c o q)
            refine fin (opn :: d ++ [cls]) _ _ ⟨_, hits.group fun t ht => (hL t ht).isL⟩ (fun t ht => ?_) (by simp; omega) ?_ (hsup.updn hfa) (.cons rfl (.cons rfl (.cons rfl .nil))) (upd_self _ _ _)
            · rcases List.mem_append.mp ht with ht | ht
              · rcases List.mem_cons.mp ht with rfl | ht
                · exact tok_opn
                · exact (hL t ht).tok
              · rw [List.mem_singleton.mp ht]; exact tok_cls
            · obtain ⟨w, c, m, g1, g2⟩ := hs2
              exact ⟨w, c, m, by rw [upd_ne _ _ hfaa.symm]; exact s1 _ _ g1, g2.1, g2.2.1, by omega, g2.2.2.2⟩
          · repeat walk_at "m1"
            refine ⟨fa, _, rfl, hf2, ?_⟩
            repeat walk_at "m1"
            refine c_take' b ao'.loc hs2 (by omega) ⟨by decide, by decide⟩ (fun r3 σ3 h4 h5 hs3 hK3 => ?_)
            obtain ⟨n3, rfl⟩ : ∃ n : Nat, r3 = n := ⟨r3.toNat, by omega⟩
            repeat walk_at "m1"
            rw [show (1 : Int) + (n3 : Int) = ((n3 + 1 : Nat) : Int) by push_cast; omega]
            have hf3 := hK3 _ _ hfaa hf2
            refine c_letters b ao'.loc hs3 (by omega) (by omega) (fun c σ4 ls hl hls hs4 hK4 hc0 hc => ?_)
            have hf4 := hK4 _ _ hfaa hf3
            repeat walk_at "m1"
            refine cl_extend hf4 hc (sz_le (by simp; omega)) ?_
            repeat walk_at "m1"
            refine fin ls _ _ ⟨_, hits.letters fun t ht => (hls t ht).isL⟩ (fun t ht => (hls t ht).tok) (by omega) ?_ (((hKK.trans hK3).trans hK4).updn hfa) (.cons rfl (.cons rfl (.cons rfl .nil))) (upd_self _ _ _)
            obtain ⟨w, c', m, g1, g2⟩ := hs4
            exact ⟨w, c', m, by rw [upd_ne _ _ hfaa.symm]; exact g1, g2.1, g2.2.1, by push_cast at g2; omega, g2.2.2.2⟩
    · rintro l σ' ⟨j, n, found, hj, hj6, hits, htok, hlen, hsrc, hK, hf, hS⟩
      have hj0 : j = 0 := by simpa using hj.symm
      subst hj0
      refine nx_loc hS ?_
      repeat walk_at "m1"
      refine sl_list hf .none (show PartV (V.int 30) (some ((30 : Nat) : Int)) from .int _) .none (by decide) (size_le (by simp; omega)) (fun c hc => ?_)
      rw [pick_to, ← List.map_take]
      repeat walk_at "m1"
      have hwf := wf_app hits [] trivial
      rw [List.append_nil] at hwf
      refine h c _ (found.take 30) (wf_take 30 hwf) (fun t ht => htok t (List.mem_of_mem_take ht)) (by simp; omega) ((hsrc.mono (by omega)).new hc) (Kp.updn hK (hK.none hc hsrc.ne)) (hK.none hc hsrc.ne) (upd_self _ _ _)
end
section
variable {D : Wd} {A : Around} {stk : List (Env × Loc)} {env : Env} {l l' : Loc} {σ σ' : Sto} {s s' : Shared} {X : Value → Shared → Prop} {Q : V → Sto → Prop}
open Classical in
theorem cl_count_tk {a : Addr} {ts : Tks} {p : Int × Int} (hu : A.units + 200 < cLine) (ha : σ a = some (.lst (ts.map tk))) (h : Q (.int (ts.count p : Nat)) σ) : Cl D A stk (.builtin "list.count") [.ref a, tk p] σ X Q := by
  refine cl_count hu ha (lev_tks ts) (lev_tk p) (fun y => decide (y = tk p)) (fun y => by simp) ?_
  have : (ts.map tk).countP (fun y => decide (y = tk p)) = ts.count p := by
    rw [List.countP_map, List.count]
    apply List.countP_congr
    intro x _
    simp only [Function.comp, decide_eq_true_eq, beq_iff_eq, tk_inj]
  rw [this]; exact h
theorem c_bare {a : Addr} {f : Tks} (b : Bs D) (ao : Ao A stk 1) (ha : σ a = some (.lst (f.map tk))) (hz : f.length ≤ 300)
    (h : ∀ σ', Sup σ σ' → Q (.tup ((bareL f).map tk)) σ') : Cl D A stk (.ref 305) [.ref a] σ X Q := by
  refine cl_def (names := [Str.ofString "row"]) (xs := [.ref a]) (ys := []) (ws := []) b ao rfl (by kernel_rfl) ?hb .nil ?hl ?body
  case hb =>
    intro s vs _ hv
    match vs, hv with
    | [x], _ => exact BindsTo.of_eq rfl
  case hl => rfl
  case body =>
    intro L hL A' hA ao'
    clear hA
    simp only [List.zip_cons_cons, List.zip_nil_right, List.append_nil, List.reverse_cons, List.reverse_nil, List.nil_append, List.cons_append] at ao' ⊢
    have hzf : (f.map tk).length ≤ sizeLine := size_le (by simp; omega)
    have no : ¬ (1 < f.length ∧ f[0]? = some opn ∧ f.count opn = 1 ∧ f.getLast? = some cls) → Q (.tup (f.map tk)) σ := fun hn => by
      have := h σ (.refl _)
      unfold bareL at this
      rw [if_neg hn] at this
      exact this
    repeat walk_at "m1"
    refine cl_len_list ha hzf ?_
    repeat walk_at "m1"
    rw [List.length_map]
    refine ifb (fun hx => ?_) (fun hx => ?_)
    · have h1 : 1 < f.length := by have := of_decide_eq_true hx; omega
      repeat walk_at "m1"
      refine sb_list (x := tk f[0]) ha (by decide) (by decide) (by rw [show (0 : Int).toNat = 0 from rfl, List.getElem?_map, List.getElem?_eq_getElem (by omega)]; rfl) ?_
      repeat walk_at "m1"
      refine cm_eq (by have := ao'.units; omega) (lev_tk _) (lev_tk opn) (by decide) (fun c hc => ?_)
      have hc1 : c = true ↔ tk f[0] = tk opn := hc
      have hc' : c = true ↔ f[0]? = some opn := by rw [hc1, tk_inj, List.getElem?_eq_getElem (by omega), Option.some.injEq]
      refine ifb (fun hx => ?_) (fun hx => ?_)
      · subst hx
        have h2 := hc'.mp rfl
        repeat walk_at "m1"
        refine ⟨a, _, rfl, ha, ?_⟩
        repeat walk_at "m1"
        refine cl_count_tk (p := opn) (by have := ao'.units; omega) ha ?_
        repeat walk_at "m1"
        refine ifb (fun hx => ?_) (fun hx => ?_)
        · have h3 : f.count opn = 1 := by have := beq_iff_eq.mp hx; omega
          repeat walk_at "m1"
          obtain ⟨t, ht⟩ : ∃ t, f.getLast? = some t := by
            have hne : f ≠ [] := fun q => by rw [q] at h1; simp at h1
            exact ⟨_, List.getLast?_eq_some_getLast hne⟩
          refine sb_list_neg (x := tk t) ha (by decide) (by decide) (by simp; omega) ?_ ?_
          · rw [List.getLast?_eq_getElem?] at ht
            rw [List.getElem?_map, List.length_map, show ((-1 : Int) + (f.length : Int)).toNat = f.length - 1 by omega, ht]; rfl
          repeat walk_at "m1"
          refine cm_eq (by have := ao'.units; omega) (lev_tk _) (lev_tk cls) (by decide) (fun c hc => ?_)
          have hc1 : c = true ↔ tk t = tk cls := hc
          have hc' : c = true ↔ f.getLast? = some cls := by rw [hc1, tk_inj, ht, Option.some.injEq]
          refine ifb (fun hx => ?_) (fun hx => ?_)
          · subst hx
            have h4 := hc'.mp rfl
            repeat walk_at "m1"
            refine sl_list ha (.int _) (.int _) .none (by decide) hzf (fun b₁ hb₁ => ?_)
            rw [pick_mid _ (by simp; omega)]
            repeat walk_at "m1"
            refine cl_tuple_list (upd_self _ _ _) (size_le (by simp; omega)) ?_
            repeat walk_at "m1"
            have := h _ (Sup.new (o := .lst (((f.map tk).drop 1).take ((f.map tk).length - 2))) hb₁)
            unfold bareL at this
            rw [if_pos ⟨h1, h2, h3, h4⟩, List.map_take, List.map_drop] at this
            rw [List.length_map] at this ⊢
            exact this
          · subst hx
            repeat walk_at "m1"
            refine cl_tuple_list ha hzf ?_
            repeat walk_at "m1"
            exact no fun q => by have := hc'.mpr q.2.2.2; cases this
        · have h3 : f.count opn ≠ 1 := fun q => by rw [q] at hx; cases hx
          repeat walk_at "m1"
          refine cl_tuple_list ha hzf ?_
          repeat walk_at "m1"
          exact no fun q => h3 q.2.2.1
      · subst hx
        repeat walk_at "m1"
        refine cl_tuple_list ha hzf ?_
        repeat walk_at "m1"
        exact no fun q => by have := hc'.mpr q.2.1; cases this
    · have h1 : ¬ 1 < f.length := by have := of_decide_eq_false hx; omega
      repeat walk_at "m1"
      refine cl_tuple_list ha hzf ?_
      repeat walk_at "m1"
      exact no fun q => h1 q.1
theorem c_found {a dl : Addr} {ts d : Tks} {beg : Nat} (b : Bs D) (ao : Ao A stk 1) (ha : σ a = some (.lst (ts.map tk))) (hdl : σ dl = some (.lst (d.map tk))) (hz : ts.length ≤ 300) (hdz : d.length ≤ 100) (hbeg : beg ≤ ts.length)
    (h1 : ∀ p σ', First d (ts.drop beg) p → Sup σ σ' → Q (.int ((beg + p : Nat) : Int)) σ') (h2 : ∀ σ', (∀ p, ¬ Match d (ts.drop beg) p) → Sup σ σ' → Q (.int (-1)) σ') : Cl D A stk (.ref 298) [.ref a, .ref dl, .int (beg : Int)] σ X Q := by
  refine cl_def (names := [Str.ofString "text", Str.ofString "delimiter", Str.ofString "begin"]) (xs := [.ref a, .ref dl, .int (beg : Int)]) (ys := []) (ws := []) b ao rfl (by kernel_rfl) ?hb .nil ?hl ?body
  case hb =>
    intro s vs _ hv
    match vs, hv with
    | [x, y, z], _ => exact BindsTo.of_eq rfl
  case hl => rfl
  case body =>
    intro L hL A' hA ao'
    subst hA
    simp only [List.zip_cons_cons, List.zip_nil_right, List.append_nil, List.reverse_cons, List.reverse_nil, List.nil_append, List.cons_append] at ao' ⊢
    have hzf : (ts.map tk).length ≤ sizeLine := size_le (by simp; omega)
    have hzd : (d.map tk).length ≤ sizeLine := size_le (by simp; omega)
    repeat walk_at "m1"
    refine ex_for_range b ao'.handled ?_ PassesOwn.leaving (by rfl)
    repeat walk_at "m1"
    refine cl_len_list ha hzf ?_
    repeat walk_at "m1"
    refine cl_len_list hdl hzd ?_
    repeat walk_at "m1"
    rw [List.length_map, List.length_map]
    have hno : ∀ p, ¬ (p + d.length ≤ ts.length - beg) → ¬ Match d (ts.drop beg) p := fun p hp hM => hp (by have := hM.1; rw [List.length_drop] at this; exact this)
    refine ⟨(beg : Int), (ts.length : Int) - (d.length : Int) + 1, .inl rfl, by omega, by omega, by omega, by omega, fun ys l σ' => Sup σ σ' ∧ ∃ k, ys = rgI ((beg + k : Nat) : Int) ((ts.length : Int) - (d.length : Int) + 1 - beg - k).toNat ∧ (∀ p, p < k → ¬ Match d (ts.drop beg) p) ∧
      Sub [(Str.ofString "begin", V.int (beg : Int)), (Str.ofString "delimiter", .ref dl), (Str.ofString "text", .ref a)] l, ⟨.refl _, 0, by (rw [Nat.add_zero]; congr 1; omega), fun p hp => by omega, .cons rfl (.cons rfl (.cons rfl .nil))⟩, ?_, ?_⟩
    · rintro y ys l σ' ⟨hs, k, hys, hk, hS⟩
      obtain ⟨n, hn, rfl, rfl⟩ := rgI_cons hys.symm
      refine exs_loc (.head hS) ?_
      have ha1 := hs _ _ ha
      have hd1 := hs _ _ hdl
      have hkl : beg + k + d.length ≤ ts.length := by omega
      repeat walk_at "m1"
      refine sl_list ha1 (.int _) (.int _) .none (by decide) hzf (fun b1 hb1 => ?_)
      rw [pick_nat, Nat.add_sub_cancel_left, ← List.map_drop, ← List.map_take]
      have hs1 : Sup σ' _ := Sup.new (o := .lst (((ts.drop beg).take k).map tk)) hb1
      repeat walk_at "m1"
      refine ⟨b1, _, rfl, upd_self _ _ _, ?_⟩
      repeat walk_at "m1"
      refine cl_count_tk (p := opn) (by have := ao'.units; omega) (upd_self _ _ _) ?_
      repeat walk_at "m1"
      refine ⟨b1, _, rfl, upd_self _ _ _, ?_⟩
      repeat walk_at "m1"
      refine cl_count_tk (p := cls) (by have := ao'.units; omega) (upd_self _ _ _) ?_
      repeat walk_at "m1"
      have next : ∀ {σ2 : Sto} {l2 : Loc}, Sup σ' σ2 → ¬ Match d (ts.drop beg) k → Sub [(Str.ofString "begin", V.int (beg : Int)), (Str.ofString "delimiter", .ref dl), (Str.ofString "text", .ref a)] l2 → Sup σ σ2 ∧ ∃ k', rgI (((beg + k : Nat) : Int) + 1) n = rgI ((beg + k' : Nat) : Int) ((ts.length : Int) - (d.length : Int) + 1 - beg - k').toNat ∧ (∀ p, p < k' → ¬ Match d (ts.drop beg) p) ∧
        Sub [(Str.ofString "begin", V.int (beg : Int)), (Str.ofString "delimiter", .ref dl), (Str.ofString "text", .ref a)] l2 := fun h3 h4 h5 => by
        refine ⟨hs.trans h3, k + 1, ?_, fun p hp => ?_, h5⟩
        · congr 1
          omega
        · rcases Nat.lt_or_ge p k with h | h
          · exact hk p h
          · rw [show p = k by omega]; exact h4
      refine ifb (fun hx => ?_) (fun hx => ?_)
      · have hbal : bal (ts.drop beg) k := by have := beq_iff_eq.mp hx; unfold bal; omega
        repeat walk_at "m1"
        have hdb : dl ≠ b1 := fun q => by rw [q, hb1] at hd1; cases hd1
        have hab : a ≠ b1 := fun q => by rw [q, hb1] at ha1; cases ha1
        refine cl_len_list (by rw [upd_ne _ _ hdb]; exact hd1) hzd ?_
        repeat walk_at "m1"
        rw [List.length_map, show ((beg + k : Nat) : Int) + (d.length : Int) = ((beg + k + d.length : Nat) : Int) by push_cast; rfl]
        refine sl_list (by rw [upd_ne _ _ hab]; exact ha1) (.int _) (.int _) .none (by decide) hzf (fun b2 hb2 => ?_)
        rw [pick_nat, Nat.add_sub_cancel_left, ← List.map_drop, ← List.map_take]
        have hdb2 : dl ≠ b2 := fun q => by rw [q] at hdb hd1; rw [upd_ne _ _ hdb, hd1] at hb2; cases hb2
        repeat walk_at "m1"
        refine cm_eq_list (by have := ao'.units; omega) (upd_self _ _ _) (by rw [upd_ne _ _ hdb2, upd_ne _ _ hdb]; exact hd1) (lev_tks _) (lev_tks _) (by decide) (fun c hc => ?_)
        rw [tks_inj] at hc
        have hs2 := hs1.trans (Sup.new (o := .lst (((ts.drop (beg + k)).take d.length).map tk)) hb2)
        have hc' : c = true ↔ Match d (ts.drop beg) k := by
          rw [hc]
          constructor
          · intro e
            exact ⟨by rw [List.length_drop]; omega, hbal, by rw [List.drop_drop]; exact e⟩
          · rintro ⟨_, _, e⟩
            rw [List.drop_drop] at e; exact e
        refine ifb (fun hx => ?_) (fun hx => ?_)
        · subst hx
          repeat walk_at "m1"
          exact h1 k _ ⟨hc'.mp rfl, hk⟩ (hs.trans hs2)
        · subst hx
          repeat walk_at "m1"
          exact next hs2 (fun q => by have := hc'.mpr q; cases this) (.cons rfl (.cons rfl (.cons rfl .nil)))
      · have hbal : ¬ bal (ts.drop beg) k := fun q => by unfold bal at q; rw [q] at hx; simp at hx
        repeat walk_at "m1"
        exact next hs1 (fun q => hbal q.2.1) (.cons rfl (.cons rfl (.cons rfl .nil)))
    · rintro l σ' ⟨hs, k, hys, hk, hS⟩
      have hn := rgI_nil hys.symm
      refine nx_loc hS ?_
      repeat walk_at "m1"
      refine h2 σ' (fun p => ?_) hs
      rcases Nat.lt_or_ge p k with h | h
      · exact hk p h
      · exact hno p (by omega)
end
section
variable {D : Wd} {A : Around} {stk : List (Env × Loc)} {env : Env} {l l' : Loc} {σ σ' : Sto} {s s' : Shared} {X : Value → Shared → Prop} {Q : V → Sto → Prop} {K : Fl → Loc → Sto → Prop} {T : Bool → Sto → Prop}
theorem Gd.swap {p q : Env × Loc} (G : Gd D (p :: q :: stk) σ s) : Gd D (q :: p :: stk) σ s := by
  refine ⟨G.stays, G.rel, G.fresh, fun r hr => G.frs r ?_, ?_, G.gens, G.os⟩
  · rcases List.mem_cons.mp hr with rfl | hr
    · exact .tail _ (.head _)
    rcases List.mem_cons.mp hr with rfl | hr
    · exact .head _
    · exact .tail _ (.tail _ hr)
  · have := G.nd
    simp only [List.map_cons, List.nodup_cons, List.mem_cons, not_or] at this ⊢
    exact ⟨⟨Ne.symm this.1.1, this.2.1⟩, this.1.2, this.2.2⟩
theorem comp_coreG {RR : Value → Addr → Result → Shared → Prop} {own : Option (Addr × List V)} {x : Str} {px : Pos} {elt iter : Expr} {ifs : List Expr} {scope : Scope} {pos : Pos} {cl : List (Str × Addr)} {ia : Addr} {s₀ : Shared} {σ₀ : Sto} {xs : List V} (hh : A.handled = none)
    (hi : ItIs own s.heap ia xs) (G : Gd D ((env, l) :: stk) σ s) (T₀ : Wy (fz ((env, l) :: stk)) σ₀ s₀.heap σ s.heap) (hu : σ ia = none) (hn₀ : NN (fz ((env, l) :: stk)) σ₀ s₀.heap ia) (hf : ia ∉ fz ((env, l) :: stk)) (hb : D.B.get? ia = none)
    (hcell : ∀ y ∈ scope.names, y.2 ≠ .cell) (hkind : scope.kind = .function) (hx : scope.names.lookup x = some .local)
    (body : ∀ ad, σ ad = none → ∃ I : List V → List V → Sto → Prop, I xs [] (upd σ ad (.lst [])) ∧ (∀ ys ac σ', I ys ac σ' → ∀ a xs, own = some (a, xs) → σ' a = some (.lst xs)) ∧
      (∀ y ys ac σ' C lc X', I (y :: ys) ac σ' → Ts D A ((compEnvC scope cl C env, (x, y) :: lc) :: (env, l) :: stk) (compEnvC scope cl C env) ifs σ' X' fun ok σ₁ =>
        if ok then Ev D A ((compEnvC scope cl C env, (x, y) :: lc) :: (env, l) :: stk) (compEnvC scope cl C env) elt σ₁ X' (fun v σ₂ => σ₂ ad = some (.lst ac) ∧ ac.length ≤ sizeLine ∧ I ys (ac ++ [v]) (upd σ₂ ad (.lst (ac ++ [v])))) else I ys ac σ₁) ∧
      (∀ ac σ', I [] ac σ' → Q (.ref ad) σ'))
    (hend : ∀ ad C lc σ₁ s₂, Q (.ref ad) σ₁ → Gd D ((compEnvC scope cl C env, lc) :: (env, l) :: stk) σ₁ s₂ → Wy (C :: fz ((env, l) :: stk)) σ₀ s₀.heap σ₁ s₂.heap → NN (fz ((env, l) :: stk)) σ₀ s₀.heap C → RR (.ref ad) C (.ok .next) s₂) :
    wpAny (Mo D) A (newList []) (fun acc s₃ => wpAny (Mo D) A (newFunctionEnv scope env.globals cl [] env.qual none .none (some env)) (fun cenv s₄ =>
      codeAny (Mo D) A (.compStart (.ListComp elt [⟨.Name x px, iter, ifs, 0⟩] scope pos) 0 (.ref ia) acc { cenv with scope := relabel scope env }) (RR acc cenv.locals) s₄) X s₃) X s := by
  obtain ⟨g1, t1, n1⟩ := G.newList (xs := []) (vs := []) .nil
  obtain ⟨I, hI, hown, turn, fin⟩ := body _ n1
  refine wpAny_newObj_type (wpAny_newFunctionEnv hcell (by intro y hy; simp at hy) (fun h₁ hns₁ hsb₁ => ?_) hkind)
  dsimp only at hns₁ hsb₁ ⊢
  generalize hH2 : s.heap.push { cls := .type "list", dict := none, data := .seq ([] : List Value).toArray } = H2 at hns₁ hsb₁ ⊢
  have hC : H2.get? H2.objs.size = none := Heap.get?_none_of_le (Nat.le_refl _)
  rw [hH2] at g1 t1
  generalize hD : s.heap.objs.size = ad at *
  generalize hCC : H2.objs.size = C at *
  have old : ∀ b o, H2.get? b = some o → h₁.get? b = some o := fun b o e => hsb₁.extBut b o (fun q => by rw [q, hC] at e; cases e) (Heap.get?_push_of_some _ e)
  have g2 : Gd D ((env, l) :: stk) (upd σ ad (.lst [])) { s with heap := h₁, toks := s.toks + ([] : List (Str × Value)).length } := g1.keeps old rfl rfl
  have g3 : Gd D ((compEnvC scope cl C env, []) :: (env, l) :: stk) (upd σ ad (.lst [])) { s with heap := h₁, toks := s.toks + ([] : List (Str × Value)).length } := by
    refine ⟨g2.stays, g2.rel, g2.fresh, fun p hp => ?_, ?_, g2.gens, g2.os⟩
    · rcases List.mem_cons.mp hp with rfl | hp
      · exact ⟨g1.base_none hC, ⟨_, hns₁, fun y v e => by simp at e⟩, g1.none_of hC⟩
      · exact g2.frs p hp
    · simp only [List.map_cons, List.nodup_cons]
      refine ⟨fun hm => ?_, List.nodup_cons.mp G.nd⟩
      have hm' : C ∈ ((env, l) :: stk).map (·.1.locals) := hm
      obtain ⟨p, hp, e⟩ := List.mem_map.mp hm'
      exact g1.frame_get hC hp e
  obtain ⟨oi, hoi, _⟩ := hi.notTup
  have hiad : ia ≠ ad := fun q => by rw [q, ← hD] at hoi; exact absurd (Heap.lt_size hoi) (Nat.lt_irrefl _)
  have hiH : H2.get? ia = some oi := by rw [← hH2]; exact Heap.get?_push_of_some _ hoi
  have hiC : ia ≠ C := fun q => by rw [q, hC] at hiH; cases hiH
  have hfi : ia ∉ C :: fz ((env, l) :: stk) := fun hm => by
    rcases List.mem_cons.mp hm with q | q
    · exact hiC q
    · exact hf q
  have keep1 : ∀ b o, s.heap.get? b = some o → h₁.get? b = some o := fun b o e => old b o (by rw [← hH2]; exact Heap.get?_push_of_some _ e)
  have hi2 : ItIs own h₁ ia xs := hi.keep (.keeps keep1) (keep1 ia)
  have w2 : Wy (C :: fz ((env, l) :: stk)) σ₀ s₀.heap (upd σ ad (.lst [])) h₁ := by
    have w : Wy (fz ((env, l) :: stk)) σ₀ s₀.heap (upd σ ad (.lst [])) h₁ := (T₀.trans t1).trans (.keeps old)
    exact ⟨w.st, fun b o e n f => w.tr b o e n (fun q => f (.tail _ q))⟩
  have hC₀ : NN (fz ((env, l) :: stk)) σ₀ s₀.heap C := by
    have w : Wy (fz ((env, l) :: stk)) σ₀ s₀.heap (upd σ ad (.lst [])) H2 := T₀.trans t1
    exact w.none_of_new hC
  have huia : (upd σ ad (.lst [])) ia = none := by rw [upd_ne _ _ hiad]; exact hu
  have loop : ∀ s₃ : Shared, s₃ = { s with heap := h₁, toks := s.toks + ([] : List (Str × Value)).length } →
      codeAny (Mo D) A (.compLoop (.ListComp elt [⟨.Name x px, iter, ifs, 0⟩] scope pos) 0 (.ref ia) (.ref ad) (compEnvC scope cl C env))
        (RR (.ref ad) C) s₃ := by
    rintro s₃ rfl
    refine codeAny_compLoop_tests (fun n s' => ∃ ys ac lc σ', n = ys.length ∧ I ys ac σ' ∧ ItIs own s'.heap ia ys ∧ Gd D ((compEnvC scope cl C env, lc) :: (env, l) :: stk) σ' s' ∧ Wy (C :: fz ((env, l) :: stk)) σ₀ s₀.heap σ' s'.heap ∧ σ' ia = none)
      (fun n s₁ h₁' => ?_) xs.length ⟨xs, [], [], _, rfl, hI, hi2, g3, w2, huia⟩
    obtain ⟨ys, ac, lc, σ₁, rfl, hI₁, hi₁, g1, t1, u1⟩ := h₁'
    cases ys with
    | nil =>
      refine next_end hh g1 (hown _ _ _ hI₁) hi₁ (fun s₂ S k hg ho => ?_)
      have g2 : Gd D ((compEnvC scope cl C env, lc) :: (env, l) :: stk) σ₁ s₂ := g1.but u1 hfi hb S k hg ho
      have t2 := t1.skip (fun o e n f => hn₀ o e n fun q => f (.tail _ q)) S k
      exact hend _ C lc σ₁ s₂ (fin _ _ hI₁) g2 t2 hC₀
    | cons y ys =>
      refine next_item g1 (hown _ _ _ hI₁) hi₁ (fun v s₂ rv hi₂ S k hg ho => ?_)
      have g2 : Gd D ((compEnvC scope cl C env, lc) :: (env, l) :: stk) σ₁ s₂ := g1.but u1 hfi hb S k hg ho
      have t2 := t1.skip (fun o e n f => hn₀ o e n fun q => f (.tail _ q)) S k
      refine wpAny_assign_Name (wpAny_mono (as_local (D := D) (A := A) (env := compEnvC scope cl C env) (l := lc) (σ := σ₁) (R := fun l' σ' => l' = (x, y) :: lc ∧ σ' = σ₁) ⟨rfl, rfl⟩ (lookup_relabel_local (env := env) hx) (by simp [compEnvC, relabel, hkind]) s₂ v g2 rv) (fun _ s₃ h₃ => ?_) fun _ _ e => e)
      obtain ⟨l₃, σ₃, ⟨rfl, rfl⟩, g3, t3⟩ := h₃
      obtain ⟨oi, hoi, _⟩ := hi₂.notTup
      have k3 := t3.tr ia oi hoi u1 hfi
      have hi₃ := hi₂.keep t3.st fun o e => by rw [hoi] at e; cases e; exact k3.1
      refine wpAny_mono (turn y ys ac σ₃ C lc _ hI₁ s₃ g3) (fun ok s₄ h₄ => ?_) fun _ _ e => e
      obtain ⟨σ₄, h4, g4, t4⟩ := h₄
      have k4 := t4.tr ia oi k3.1 k3.2 hfi
      have hi₄ := hi₃.keep t4.st fun o e => by rw [k3.1] at e; cases e; exact k4.1
      cases ok with
      | false => exact ⟨ys.length, by simp, ys, ac, _, σ₄, rfl, h4, hi₄, g4, (t2.trans t3).trans t4, k4.2⟩
      | true =>
        refine wpAny_mono (h4 s₄ g4) (fun xv s₅ h₅ => ?_) fun _ _ e => e
        obtain ⟨z, σ₅, ⟨ha5, hz5, h5⟩, r5, g5, t5⟩ := h₅
        have k5 := t5.tr ia oi k4.1 k4.2 hfi
        have hi₅ := hi₄.keep t5.st fun o e => by rw [k4.1] at e; cases e; exact k5.1
        refine wpAny_mono (cl_append (D := D) (A := A) (Q := fun _ σ' => σ' = upd σ₅ ad (.lst (ac ++ [z]))) ha5 hz5 rfl s₅ [.ref ad, xv] g5 (.cons (.ref _) (.cons r5 .nil))) (fun _ s₆ h₆ => ?_) fun _ _ e => e
        obtain ⟨_, σ₆, rfl, _, g6, t6⟩ := h₆
        have k6 := t6.tr ia oi k5.1 k5.2 hfi
        have hi₆ := hi₅.keep t6.st fun o e => by rw [k5.1] at e; cases e; exact k6.1
        exact ⟨ys.length, by simp, ys, _, _, _, rfl, h5, hi₆, g6, (((t2.trans t3).trans t4).trans t5).trans t6, k6.2⟩
  refine codeAny_compStart_list (loop _ rfl) ?_
  cases hi2 with
  | tup _ _ hit => exact wpAny_pyIter_tupleiter hit (loop _ rfl)
  | lst _ hit => exact wpAny_pyIter_listiter hit (loop _ rfl)
  | rng hit => exact wpAny_pyIter_rangeiter hit (loop _ rfl)

/-- y = [elt for x in range(..) if ..] -/
theorem ex_comp_range {y : Str} {py pst : Pos} {x : Str} {px np p' : Pos} {es : List Expr} {elt : Expr} {ifs : List Expr} {scope : Scope} {pos : Pos} (b : Bs D) (cl : List (Str × Addr)) (hh : A.handled = none) (hclos : closureFor scope env = pure cl)
    (h : Sp D A ((env, l) :: stk) env p' es σ X fun xs σ₁ => ∃ a c, (xs = [.int a, .int c] ∨ (xs = [.int c] ∧ a = 0)) ∧ -(2 ^ 62) ≤ a ∧ a < 2 ^ 62 ∧ -(2 ^ 62) ≤ c ∧ c < 2 ^ 62 ∧ ∀ ad, σ₁ ad = none → ∃ I : List V → List V → Sto → Prop, I (rgI a (c - a).toNat) [] (upd σ₁ ad (.lst [])) ∧
      (∀ y ys ac σ' C lc X', I (y :: ys) ac σ' → Ts D A ((compEnvC scope cl C env, (x, y) :: lc) :: (env, l) :: stk) (compEnvC scope cl C env) ifs σ' X' fun ok σ₁ =>
        if ok then Ev D A ((compEnvC scope cl C env, (x, y) :: lc) :: (env, l) :: stk) (compEnvC scope cl C env) elt σ₁ X' (fun v σ₂ => σ₂ ad = some (.lst ac) ∧ ac.length ≤ sizeLine ∧ I ys (ac ++ [v]) (upd σ₂ ad (.lst (ac ++ [v])))) else I ys ac σ₁) ∧
      (∀ ac σ', I [] ac σ' → K .next ((y, .ref ad) :: l) σ'))
    (hsw : swapsWithSole [.Name y py] (.ListComp elt [⟨.Name x px, .Call (.Name (Str.ofString "range") np) es [] p', ifs, 0⟩] scope pos) pst.line env = pure true) (hly : env.kindOf y = some .local)
    (e : nsIn (Kf D.w) mainGlobals (Str.ofString "range") = some none) (hp : es.all (fun e => !isStarred e) = true := by rfl)
    (hk : env.scope.kind = .function := by rfl) (hlr : env.kindOf (Str.ofString "range") = some .globalImplicit := by rfl) (hg : env.globals = mainGlobals := by rfl) (hb : env.builtins = builtinsNs := by rfl)
    (hs : ∀ v, foldedSetIterable (.Call (.Name (Str.ofString "range") np) es [] p') env v = pure v := by intro _; rfl) (hcell : scope.names.all (fun y => y.2 != .cell) = true := by rfl) (hkind : scope.kind = .function := by rfl) (hx : scope.names.lookup x = some .local := by rfl)
    (hnames : scope.names.all (fun x => x.2 != .local || scope.names.lookup x.1 == some .local) = true := by rfl) :
    Ex D A stk env (.Assign [.Name y py] (.ListComp elt [⟨.Name x px, .Call (.Name (Str.ofString "range") np) es [] p', ifs, 0⟩] scope pos) pst) l σ X K := fun s G => by
  rw [exec_Assign]
  refine wpAny_bind (wpAny_standAt ?_)
  rw [hsw]
  refine wpAny_bind (wpAny_pure ?_)
  rw [if_pos rfl]
  refine wpAny_bind (wpAny_mono (Q := fun _ s' => PF D stk env σ s K .next s') ?_ (fun _ _ h => wpAny_pure h) fun _ _ e => e)
  rw [arm_evalThenUse_ListComp]
  refine wpAny_bind (wpAny_mono (Q := fun _ s' => PF D stk env σ s K .next s') ?_ (fun _ _ h => wpAny_pure h) fun _ _ e => e)
  refine wpAny_comprehension_free rfl hs hclos hkind (fun x hx hl => ?_) (callB_raw (f := .type "range") b e (by rfl) (by intro a h; cases h) G (fun s₀ G₀ => wpAny_mono (h s₀ G₀) (fun vs s₁ h₁ => ?_) fun _ _ e => e) hp (by decide) hk hlr hg hb (by decide))
  · have := List.all_eq_true.mp hnames _ hx
    simpa [hl] using this
  obtain ⟨xs, σ₁, ⟨a, c, hxs, ha, ha', hc, hc', body⟩, r1, g1, t1⟩ := h₁
  refine ⟨xs, σ₁, ?_, r1, g1, t1⟩
  intro s₂ vs₂ g2 r2 t2
  have fin : ∀ (st : Obj) (hst : ∃ t u v, st = { cls := .type "range", data := .fields #[.int a t, .int c u, .int 1 v] }) (tk : PySem.Tok), wpAny (Mo D) A (pyIter (.ref s₂.heap.objs.size))
      (fun it s₃ => wpAny (Mo D) A (newList []) (fun acc s₄ => wpAny (Mo D) A (newFunctionEnv scope env.globals cl [] env.qual none .none (some env)) (fun cenv s₅ =>
        codeAny (Mo D) A (.compStart (.ListComp elt [⟨.Name x px, .Call (.Name (Str.ofString "range") np) es [] p', ifs, 0⟩] scope pos) 0 it acc { cenv with scope := relabel scope env }) (compPost (Mo D) A X (some fun v => assignAll v [assign (.Name y py) env]) (fun _ s' => PF D stk env σ s K .next s') acc cenv.locals) s₅) X s₄) X s₃) X { s₂ with heap := s₂.heap.push st, toks := tk } := by
    rintro st ⟨t, u, v, rfl⟩ tk
    have k := keeps_push s₂.heap { cls := .type "range", data := .fields #[.int a t, .int c u, .int 1 v] }
    refine wpAny_pyIter_range (IsRange.new ..) (small_one ha ha' hc hc') ?_
    have k2 := keeps_push (s₂.heap.push { cls := .type "range", data := .fields #[.int a t, .int c u, .int 1 v] }) { cls := .type "range_iterator", data := .fields #[rawInt a, rawInt (Builtin.Range.rangeSize a c 1), rawInt 1] }
    have kk : ∀ b o, s₂.heap.get? b = some o → ((s₂.heap.push { cls := .type "range", data := .fields #[.int a t, .int c u, .int 1 v] }).push { cls := .type "range_iterator", data := .fields #[rawInt a, rawInt (Builtin.Range.rangeSize a c 1), rawInt 1] }).get? b = some o := fun b o e => k2 _ _ (k _ _ e)
    have hN : s₂.heap.get? (s₂.heap.push { cls := .type "range", data := .fields #[.int a t, .int c u, .int 1 v] }).objs.size = none := Heap.get?_none_of_le (by rw [Heap.size_push]; exact Nat.le_succ _)
    refine comp_coreG (Q := fun v σ' => ∃ ad, v = .ref ad ∧ K .next ((y, .ref ad) :: l) σ') (X := X) (own := none) (σ := σ₁) (σ₀ := σ) (s₀ := s) (xs := rgI a (c - a).toNat) hh ?_ (g2.keeps (s' := { s₂ with heap := _, toks := tk }) kk rfl rfl) (t2.trans (.keeps kk)) (g2.none_of hN) (t2.none_of_new hN) (g2.not_frame hN) (g2.base_none hN) (fun y hy => by have := List.all_eq_true.mp hcell _ hy; simpa using this) hkind hx (fun ad had => ?_) ?hend
    · have := ItIs.rng (own := none) (h := (s₂.heap.push { cls := .type "range", data := .fields #[.int a t, .int c u, .int 1 v] }).push { cls := .type "range_iterator", data := .fields #[rawInt a, rawInt (Builtin.Range.rangeSize a c 1), rawInt 1] }) (ia := (s₂.heap.push { cls := .type "range", data := .fields #[.int a t, .int c u, .int 1 v] }).objs.size) (x := a) (left := Builtin.Range.rangeSize a c 1) (Heap.get?_push_size _ rfl)
      have e : (Builtin.Range.rangeSize a c 1).toNat = (c - a).toNat := by rw [rangeSize_one]; split <;> omega
      rw [e] at this
      exact this
    · obtain ⟨I, h1, h3, h4⟩ := body ad had
      exact ⟨I, h1, fun ys ac σ' hi b zs e => (by cases e), h3, fun ac σ' hi => ⟨_, rfl, h4 ac σ' hi⟩⟩
    case hend =>
      rintro ad C lc σ₁ s₃ ⟨_, hrefl, hK⟩ g3 t3 hNN
      cases hrefl
      show wpAny _ _ (assign (.Name y py) env (.ref ad)) _ _ _
      refine wpAny_assign_Name (wpAny_mono (as_local (D := D) (A := A) (X := X) (stk := (compEnvC scope cl C env, lc) :: stk) (l := l) (σ := σ₁) (R := fun l' σ' => l' = (y, .ref ad) :: l ∧ σ' = σ₁) ⟨rfl, rfl⟩ hly hk s₃ (.ref ad) g3.swap (.ref _)) (fun _ s₄ h₄ => ?_) fun _ _ e => e)
      obtain ⟨l₄, σ₄, ⟨rfl, rfl⟩, g4, t4⟩ := h₄
      have g5 := g4.swap
      obtain ⟨hbC, ⟨m, hm, hrm⟩, hσC⟩ := g5.frs _ (.head _)
      refine ⟨m, hm, fun h' hs' => ?_⟩
      have kC : ∀ b o, b ≠ C → s₄.heap.get? b = some o → h'.get? b = some o := fun b o q e => (hs'.2 b q).trans e
      obtain ⟨oC, eC, fC, _⟩ := (show RepF s₄.heap C lc from ⟨m, hm, hrm⟩).shape
      have SC : St s₄.heap h' := .but eC fC kC
      have hCn : C ∉ fz ((env, (y, V.ref ad) :: l) :: stk) := by
        have := g5.nd
        simp only [List.map_cons, List.nodup_cons] at this
        exact this.1
      have g6 : Gd D ((env, (y, V.ref ad) :: l) :: stk) σ₄ { s₄ with heap := h' } := (g5.pop).but (s' := { s₄ with heap := h' }) hσC hCn hbC SC kC rfl rfl
      refine ⟨.next, _, σ₄, hK, .next, g6, ⟨(t3.st.trans t4.st).trans SC, fun b o e n f => ?_⟩⟩
      have hbC' : b ≠ C := fun q => hNN o (q ▸ e) (q ▸ n) (q ▸ f)
      obtain ⟨e1, e2⟩ := t3.tr b o e n (fun q => by
        rcases List.mem_cons.mp q with q | q
        · exact hbC' q
        · exact f q)
      obtain ⟨e3, e4⟩ := t4.tr b o e1 e2 (fun q => by
        have q' : b ∈ env.locals :: C :: fz stk := q
        rcases List.mem_cons.mp q' with q | q
        · exact f (by rw [q]; exact .head _)
        rcases List.mem_cons.mp q with q | q
        · exact hbC' q
        · exact f (.tail _ q))
      exact ⟨kC b o hbC' e3, e4⟩
  rcases hxs with rfl | ⟨rfl, rfl⟩
  · cases r2 with | cons ra rb => cases rb with | cons rb rc => cases rc; cases ra; cases rb; exact call_range_2 (fin _ ⟨_, _, _, rfl⟩ _)
  · cases r2 with | cons ra rb => cases rb; cases ra; exact call_range_1 (fin _ ⟨_, _, _, rfl⟩ _)
end
section
variable {D : Wd} {A : Around} {stk : List (Env × Loc)} {env : Env} {l l' : Loc} {σ σ' : Sto} {s s' : Shared} {X : Value → Shared → Prop} {Q : V → Sto → Prop}
abbrev ik (k : Nat) : V := .int (k : Int)
theorem okS_iff {d : Tks} {m k : Nat} {t : Int × Int} (hm : m < d.length) (hk : k ≤ m) : (d.take m ++ [t]).drop k = d.take (m + 1 - k) ↔ okS d m t k := by
  have e1 : (d.take m ++ [t]).drop k = (d.drop k).take (m - k) ++ [t] := by
    rw [List.drop_append_of_le_length (by rw [List.length_take]; omega), List.drop_take]
  have hlt : m - k < d.length := by omega
  have e2 : d.take (m + 1 - k) = d.take (m - k) ++ [d[m - k]] := by
    rw [show m + 1 - k = m - k + 1 by omega, List.take_add_one, List.getElem?_eq_getElem hlt]; rfl
  rw [e1, e2]
  constructor
  · intro h
    obtain ⟨h1, h2⟩ := List.append_inj' h rfl
    refine ⟨h1, ?_⟩
    rw [List.getElem?_eq_getElem hlt]
    injection h2 with h2
    rw [h2]
  · rintro ⟨h1, h2⟩
    rw [List.getElem?_eq_getElem hlt] at h2
    injection h2 with h2
    rw [h1, h2]
theorem ev_cut2 {e : Expr} {P : V → Sto → Prop} (h : Ev D A stk env e σ X P) (k : ∀ v σ', P v σ' → Q v σ') : Ev D A stk env e σ X Q := ev_cut h k
theorem cl_defC2 {xs : List V} {f : Addr} {n : Nat} {names : List Str} {name qual : Str} {params : Arguments} {body : List Stmt} {scope : Scope} {dV kV doc pm cdv ct oc : Value} {an od : Option Addr} {osl : Array (Option Value)}
    (b : Bs D) (ao : Ao A stk (n + 1)) (ho : (Kf D.w).lookup f = some ⟨oc, od, .func (fnOf name qual params body scope dV kV doc pm an cdv ct), osl⟩) (hcd : codeIn (Kf D.w) cdv qual = true)
    (hbind : ∀ (vs : List Value), vs.length = xs.length → bindArgs (fnOf name qual params body scope dV kV doc pm an cdv ct) ⟨vs, []⟩ = pure (names.zip vs))
    (hkind : ∀ k, ∀ x ∈ names, scope.names.lookup x = some .local ∨ (scope.names.lookup x = some .cell ∧ ((cellsFrom k scope.names []).lookup x).isSome = true))
    (hnd : ((cellsFrom 0 scope.names []).map (·.1)).Nodup) (l : Loc) (cmv : Str → Option V)
    (hm : ∀ h vs L, RepVs h xs vs → RepM h (bindL (envOfC qual scope L f cdv).kindOf (names.zip vs) fun _ => none) l)
    (hc : ∀ h vs L, RepVs h xs vs → ∀ p ∈ cellsFrom (L + 1) scope.names [], RepC h (bindC (envOfC qual scope L f cdv).kindOf (names.zip vs) (fun _ => none) p.1) (cmv p.1))
    (h : ∀ L, σ L = none → (∀ p ∈ cellsFrom (L + 1) scope.names [], σ p.2 = none) → ∀ A', A' = A.deeper (envOfC qual scope L f cdv) → Ao A' ((envOfC qual scope L f cdv, l) :: stk) n →
      Exs D A' stk (envOfC qual scope L f cdv) body l (cellUpd σ (cellsFrom (L + 1) scope.names []) cmv) (Lv D A (envOfC qual scope L f cdv) X) fun fl _ σ' => Q (retv fl) σ')
    (hk : scope.kind = .function := by rfl) (hco : scope.isCoroutine = false := by rfl) (hgen : scope.isGenerator = false := by rfl) :
    Cl D A stk (.ref f) xs σ X Q := fun s vs G R => by
  obtain ⟨pr, lo, mg, mb, T⟩ := b.top
  have kin := b.kin.keeps G.stays
  have hz : vs.length = xs.length := R.length
  refine wpAny_call (codeAny_call_cells (fd := fnOf name qual params body scope dV kV doc pm an cdv ct) (body := body) (binds := names.zip vs) (by have := ao.depth; omega) (kin _ _ ho) rfl (T.nolimit.keeps G.stays) (codeRec_of kin hcd) rfl (hbind vs hz) rfl
    (fun x hx => hkind _ _ (List.of_mem_zip hx |>.1)) (fun s₁ x => ?_) hco hgen hk)
  have hkp := x.toInCall.keep
  obtain ⟨h₁, tk, rfl, _⟩ := x.done
  have hL : s.heap.get? s.heap.objs.size = none := Heap.get?_none_of_le (Nat.le_refl _)
  have hcell : ∀ p ∈ cellsFrom (s.heap.objs.size + 1) scope.names [], s.heap.get? p.2 = none := fun p hp => Heap.get?_none_of_le (Nat.le_of_lt (x.above p.1 p.2 hp))
  have g0 : Gd D stk σ { s with heap := h₁, toks := tk } := G.keeps hkp rfl rfl
  have g1 : Gd D ((envOfC qual scope s.heap.objs.size f cdv, l) :: stk) σ { s with heap := h₁, toks := tk } := by
    refine ⟨g0.stays, g0.rel, g0.fresh, fun p hp => ?_, ?_, g0.gens, g0.os⟩
    · rcases List.mem_cons.mp hp with rfl | hp
      · exact ⟨G.base_none hL, ⟨_, x.toInCall.ns, hm _ _ _ (R.st (.keeps hkp))⟩, G.none_of hL⟩
      · exact g0.frs p hp
    · simp only [List.map_cons, List.nodup_cons]
      refine ⟨fun hm => ?_, G.nd⟩
      obtain ⟨p, hp, e⟩ := List.mem_map.mp hm
      exact G.frame_get hL hp e
  have g2 : Gd D ((envOfC qual scope s.heap.objs.size f cdv, l) :: stk) (cellUpd σ (cellsFrom (s.heap.objs.size + 1) scope.names []) cmv) { s with heap := h₁, toks := tk } := by
    refine gd_cells (cm := bindC (envOfC qual scope s.heap.objs.size f cdv).kindOf (names.zip vs) fun _ => none) _ g1 (fun p hp => ⟨?_, G.base_none (hcell p hp), fun q hq => ?_, hc _ _ _ (R.st (.keeps hkp)) p hp⟩)
    · exact x.cell p.1 p.2 (lookup_of_mem_nodup (cellsFrom_names scope.names 0 (s.heap.objs.size + 1) [] [] rfl ▸ hnd) hp)
    · rcases List.mem_cons.mp hq with rfl | hq
      · exact Nat.ne_of_lt (x.above p.1 p.2 hp)
      · exact G.frame_get (hcell p hp) hq
  have ao' := ao.deeper (env := envOfC qual scope s.heap.objs.size f cdv) (l := l) rfl hk
  refine wpAny_mono (h _ (G.none_of hL) (fun p hp => G.none_of (hcell p hp)) _ rfl ao' _ g2) (fun fl s' h' => ?_) fun e s' h' => h'
  obtain ⟨fl', l', σ', hq, rf, g', t'⟩ := h'
  have g3 := g'.pop
  have w2 : Wy (fz stk) σ s.heap σ' s'.heap := by
    refine ⟨(St.keeps hkp).trans t'.st, fun c o e nn fr => ?_⟩
    refine t'.tr c o (hkp c o e) ?_ ?_
    · rw [cellUpd_none (fun p hp q => by have := hcell p hp; rw [q, e] at this; cases this)]; exact nn
    · intro hm
      rcases List.mem_cons.mp hm with q | q
      · rw [q] at e
        have : s.heap.get? s.heap.objs.size = some o := e
        rw [hL] at this; cases this
      · exact fr q
  cases rf with
  | next => exact ⟨_, _, hq, .none, g3, w2⟩
  | brk => exact ⟨_, _, hq, .none, g3, w2⟩
  | cont => exact ⟨_, _, hq, .none, g3, w2⟩
  | ret r => exact ⟨_, _, hq, r, g3, w2⟩
theorem c_slid_right {dl : Addr} {d : Tks} (b : Bs D) (ao : Ao A stk 4) (hdl : σ dl = some (.lst (d.map tk))) (hz : d.length ≤ 50) (hd : d ≠ [])
    (h : ∀ σ', Sup σ σ' → Q (.bool true) σ') : Cl D A stk (.ref 317) [.ref dl] σ X Q := by
  refine cl_defC2 (names := [Str.ofString "delimiter"]) (xs := [.ref dl]) b ao rfl (by kernel_rfl) ?hb ?hk2 ?hnd [(Str.ofString "delimiter", V.ref dl)] (fun _ => none) ?hm ?hc ?body
  case hb =>
    intro vs hv
    match vs, hv with
    | [x], _ => rfl
  case hk2 =>
    intro k x hx
    rw [List.mem_singleton.mp hx]
    exact .inl (by rfl)
  case hnd => decide
  case hm =>
    intro hp vs L R
    cases R with | cons r1 R =>
      cases R
      intro y v e
      rw [List.lookup_cons] at e
      by_cases q : (y == Str.ofString "delimiter") = true
      · rw [q] at e; cases e
        rw [beq_iff_eq.mp q]
        exact ⟨_, rfl, r1⟩
      · rw [Bool.not_eq_true] at q; rw [q] at e; cases e
  case hc => intro hp vs L R p hpc; trivial
  case body =>
    intro L hL hcell A' hA ao'
    subst hA
    have hc1 : σ (L + 1) = none := hcell (Str.ofString "row", L + 1) (.tail _ (.head _))
    have hc2 : σ (L + 2) = none := hcell (Str.ofString "read", L + 2) (.head _)
    show Exs _ _ _ _ _ _ (upd (upd σ (L + 1) (O.cell none)) (L + 2) (O.cell none)) _ _
    have h12 : L + 2 ≠ L + 1 := Nat.ne_of_gt (Nat.lt_succ_self (L + 1))
    have hd1 : dl ≠ L + 1 := fun q => by rw [q, hc1] at hdl; cases hdl
    have hd2 : dl ≠ L + 2 := fun q => by rw [q, hc2] at hdl; cases hdl
    repeat walk_at "m1"
    refine cl_tuple_list (by rw [upd_ne _ _ hd2, upd_ne _ _ hd1]; exact hdl) (size_le (by simp; omega)) ?_
    refine as_cell rfl (by rw [upd_ne _ _ h12.symm, upd_self]) ?_
    rw [upd_comm _ _ _ h12, upd_upd]
    have S0 : Sup σ (upd (upd σ (L + 1) (.cell (some (.tup (d.map tk))))) (L + 2) (.cell none)) := (Sup.new hc1).trans (Sup.new (by rw [upd_ne _ _ h12]; exact hc2))
    have hrow0 : (upd (upd σ (L + 1) (.cell (some (.tup (d.map tk))))) (L + 2) (.cell none)) (L + 1) = some (.cell (some (.tup (d.map tk)))) := by rw [upd_ne _ _ h12.symm, upd_self]
    have hread0 : ∃ v, (upd (upd σ (L + 1) (.cell (some (.tup (d.map tk))))) (L + 2) (.cell none)) (L + 2) = some (.cell v) := ⟨_, upd_self _ _ _⟩
    generalize (upd (upd σ (L + 1) (.cell (some (.tup (d.map tk))))) (L + 2) (.cell none)) = σ0 at *
    refine nx_next (exs_cons (ex_for_range b ao'.handled ?_ PassesOwn.leaving (by rfl)))
    repeat walk_at "m1"
    refine cl_len_tup (size_le (by simp; omega)) ?_
    repeat walk_at "m1"
    rw [List.length_map]
    refine ⟨0, (d.length : Int), .inr ⟨rfl, rfl⟩, by omega, by omega, by omega, by omega, fun ys l σ' => Sup σ σ' ∧ σ' (L + 1) = some (.cell (some (.tup (d.map tk)))) ∧ (∃ v, σ' (L + 2) = some (.cell v)) ∧ ∃ m n : Nat, ys = rgI (m : Int) n ∧ m + n = d.length, ⟨S0, hrow0, hread0, 0, d.length, by simp, by simp⟩, ?_, ?_⟩
    · rintro y ys l σ' ⟨hs, hrow, hread, m, n, hys, hmn⟩
      obtain ⟨n, rfl, rfl, rfl⟩ := rgI_cons hys.symm
      have hm : m < d.length := by omega
      refine exs_loc (l' := [(Str.ofString "matched", V.int (m : Int))]) (.cons rfl .nil) ?_
      refine exs_cons (ex_for_tup ao'.handled ?_ PassesOwn.leaving)
      repeat walk_at "m1"
      refine ⟨[tk (11, 97), tk (11, 98)], rfl, fun ys l σ' => Sup σ σ' ∧ σ' (L + 1) = some (.cell (some (.tup (d.map tk)))) ∧ (∃ v, σ' (L + 2) = some (.cell v)) ∧ (∃ us : Tks, ys = us.map tk) ∧ Sub [(Str.ofString "matched", V.int (m : Int))] l, ⟨hs, hrow, hread, ⟨[(11, 97), (11, 98)], rfl⟩, .refl _⟩, ?_, ?_⟩
      · clear hs hrow hread
        rintro y ys l σ' ⟨hs, hrow, ⟨v0, hread⟩, ⟨us, hus⟩, hS⟩
        cases us with
        | nil => cases hus
        | cons t us =>
          simp only [List.map_cons] at hus
          injection hus with h1 h2
          subst h1 h2
          refine exs_loc (.head hS) ?_
          repeat walk_at "m1"
          refine sb_tup (j := m) (x := tk d[m]) (by omega) (by omega) (by unfold seqIndex?; simp; omega) (by rw [List.getElem?_map, List.getElem?_eq_getElem hm]; rfl) ?_
          refine cm_eq (by have := ao'.units; omega) (lev_tk _) (lev_tk _) (by decide) (fun c hc => ?_)
          refine ifb (fun hx => ?_) (fun hx => ?_)
          · repeat walk_at "m1"
            exact ⟨hs, hrow, ⟨v0, hread⟩, ⟨us, rfl⟩, .cons rfl .nil⟩
          · repeat walk_at "m1"
            refine sl_tup .none (.int m) (size_le (by simp; omega)) ?_
            rw [cut_to, ← List.map_take]
            repeat walk_at "m1"
            refine op_tcat (sz_le (by simp; omega)) ?_
            refine as_cell rfl hread ?_
            rw [show (d.take m).map tk ++ [tk t] = (d.take m ++ [t]).map tk by simp]
            have hrow1 : (upd σ' (L + 2) (.cell (some (.tup ((d.take m ++ [t]).map tk))))) (L + 1) = some (.cell (some (.tup (d.map tk)))) := by rw [upd_ne _ _ h12.symm]; exact hrow
            have hread1 : (upd σ' (L + 2) (.cell (some (.tup ((d.take m ++ [t]).map tk))))) (L + 2) = some (.cell (some (.tup ((d.take m ++ [t]).map tk)))) := upd_self _ _ _
            have hs1 : Sup σ (upd σ' (L + 2) (.cell (some (.tup ((d.take m ++ [t]).map tk))))) := fun c o e => by rw [upd_ne _ _ (fun q => by rw [q, hc2] at e; cases e)]; exact hs c o e
            generalize (upd σ' (L + 2) (.cell (some (.tup ((d.take m ++ [t]).map tk))))) = σ1 at *
            refine nx_next (exs_cons (ex_comp_range b _ ao'.handled rfl ?_ (by rfl) (by rfl) (by rfl)))
            · repeat walk_at "m1"
              refine ⟨1, (m : Int) + 1, .inl rfl, by omega, by omega, by omega, by omega, fun ad had => ⟨fun ys ac σ2 => ∃ (j n : Nat) (ks : List Nat), ys = rgI (1 + (j : Int)) n ∧ j + n = m ∧ ac = ks.map ik ∧ σ2 = upd σ1 ad (.lst ac) ∧ (∀ k ∈ ks, 1 ≤ k ∧ k ≤ j ∧ okS d m t k) ∧ (∀ k, 1 ≤ k → k ≤ j → okS d m t k → k ∈ ks) ∧ ks.length ≤ j ∧ (∀ k0 r, ks = k0 :: r → ∀ k ∈ r, k0 < k), ⟨0, m, [], by congr 1; omega, by simp, rfl, rfl, by simp, fun k h1 h2 => by omega, by simp, by simp⟩, ?_, ?_⟩⟩
              · rintro y ys ac σ2 C lc X' ⟨j, n, ks, hys, hjn, rfl, rfl, hk1, hk2, hk3, hk4⟩
                obtain ⟨n, rfl, rfl, rfl⟩ := rgI_cons hys.symm
                have ha1 : L + 1 ≠ ad := fun q => by rw [← q, hrow1] at had; cases had
                have ha2 : L + 2 ≠ ad := fun q => by rw [← q, hread1] at had; cases had
                have hrow2 : (upd σ1 ad (.lst (ks.map ik))) (L + 1) = some (.cell (some (.tup (d.map tk)))) := by rw [upd_ne _ _ ha1]; exact hrow1
                have hread2 : (upd σ1 ad (.lst (ks.map ik))) (L + 2) = some (.cell (some (.tup ((d.take m ++ [t]).map tk)))) := by rw [upd_ne _ _ ha2]; exact hread1
                rw [show (1 : Int) + (j : Int) = ((j + 1 : Nat) : Int) by push_cast; omega]
                refine ts_one ?_
                repeat walk_at "m1"
                refine sl_tup (.int (j + 1)) .none (size_le (by simp; omega)) ?_
                rw [cut_from, ← List.map_drop]
                repeat walk_at "m1"
                refine cl_len_tup (size_le (by simp; omega)) ?_
                repeat walk_at "m1"
                rw [show (((d.take m ++ [t]).map tk).length : Int) - ((j + 1 : Nat) : Int) = ((m + 1 - (j + 1) : Nat) : Int) by (simp; omega)]
                refine sl_tup .none (.int _) (size_le (by simp; omega)) ?_
                rw [cut_to, ← List.map_take]
                refine cm_eq (by have := ao'.units; omega) (lev_ttk _) (lev_ttk _) (by decide) (fun c hc => ?_)
                have hc' : c = true ↔ okS d m t (j + 1) := by
                  rw [hc, V.tup.injEq, tks_inj]
                  exact okS_iff hm (by omega)
                refine ifb (fun hx => ?_) (fun hx => ?_)
                · subst hx
                  have hok := hc'.mp rfl
                  repeat walk_at "m1"
                  refine ⟨upd_self _ _ _, size_le (by simp; omega), j + 1, n, ks ++ [j + 1], by congr 1; push_cast; omega, by omega, by simp, ?_, fun k hk => ?_, fun k h1 h2 h3 => ?_, by simp; omega, fun k0 r hr k hk => ?_⟩
                  · rw [upd_upd]
                  · rcases List.mem_append.mp hk with hk | hk
                    · obtain ⟨a1, a2, a3⟩ := hk1 k hk; exact ⟨a1, by omega, a3⟩
                    · rw [List.mem_singleton.mp hk]; exact ⟨by omega, by omega, hok⟩
                  · rcases Nat.lt_or_ge j k with h4 | h4
                    · exact List.mem_append_right _ (by rw [show k = j + 1 by omega]; exact .head _)
                    · exact List.mem_append_left _ (hk2 k h1 h4 h3)
                  · cases ks with
                    | nil =>
                      simp only [List.nil_append] at hr
                      injection hr with hr1 hr2
                      rw [← hr2] at hk; cases hk
                    | cons k1 ks =>
                      simp only [List.cons_append] at hr
                      injection hr with hr1 hr2
                      rw [← hr2] at hk
                      rcases List.mem_append.mp hk with hk | hk
                      · rw [← hr1]; exact hk4 k1 ks rfl k hk
                      · rw [List.mem_singleton.mp hk, ← hr1]
                        have := (hk1 k1 (.head _)).2.1; omega
                · subst hx
                  have hok : ¬ okS d m t (j + 1) := fun q => by have := hc'.mpr q; cases this
                  refine ⟨j + 1, n, ks, by congr 1; push_cast; omega, by omega, rfl, rfl, fun k hk => ?_, fun k h1 h2 h3 => ?_, by omega, hk4⟩
                  · obtain ⟨a1, a2, a3⟩ := hk1 k hk; exact ⟨a1, by omega, a3⟩
                  · rcases Nat.lt_or_ge j k with h4 | h4
                    · rw [show k = j + 1 by omega] at h3; exact absurd h3 hok
                    · exact hk2 k h1 h4 h3
              · rintro ac σ2 ⟨j, n, ks, hys, hjn, rfl, rfl, hk1, hk2, hk3, hk4⟩
                have hn0 := rgI_nil hys.symm
                have hj : j = m := by omega
                subst hj
                have ha1 : L + 1 ≠ ad := fun q => by rw [← q, hrow1] at had; cases had
                have ha2 : L + 2 ≠ ad := fun q => by rw [← q, hread1] at had; cases had
                have hrow2 : (upd σ1 ad (.lst (ks.map ik))) (L + 1) = some (.cell (some (.tup (d.map tk)))) := by rw [upd_ne _ _ ha1]; exact hrow1
                have hread2 : (upd σ1 ad (.lst (ks.map ik))) (L + 2) = some (.cell (some (.tup ((d.take j ++ [t]).map tk)))) := by rw [upd_ne _ _ ha2]; exact hread1
                have hsh2 : (upd σ1 ad (.lst (ks.map ik))) ad = some (.lst (ks.map ik)) := upd_self _ _ _
                have hs2 : Sup σ (upd σ1 ad (.lst (ks.map ik))) := hs1.trans (.new had)
                generalize (upd σ1 ad (.lst (ks.map ik))) = σ2 at *
                refine nx_next (exs_cons (ex_assign (ev_cut (P := fun v σ3 => Sup σ2 σ3 ∧ ((ks = [] ∧ v = tk ((j : Int), 0)) ∨ ∃ k0 r, ks = k0 :: r ∧ v = tk ((k0 : Int), (j : Int) + 1 - (k0 : Int)))) ?_ ?_)))
                · repeat walk_at "m1"
                  intro c0 hc0
                  have hca : ad ≠ c0 := fun q => by rw [← q, hsh2] at hc0; cases hc0
                  refine cm_ne_list (n := 1) (m := 1) (by have := ao'.units; omega) (by rw [upd_ne _ _ hca]; exact hsh2) (upd_self _ _ _) (fun x hx => by obtain ⟨k, _, rfl⟩ := List.mem_map.mp hx; exact .int _ _) (fun x hx => by simp at hx) (by decide) (fun c hc => ?_)
                  refine ifb (fun hx => ?_) (fun hx => ?_)
                  · subst hx
                    obtain ⟨k0, r, rfl⟩ : ∃ k0 r, ks = k0 :: r := by
                      cases ks with
                      | nil => exact absurd rfl (hc.mp rfl)
                      | cons k0 r => exact ⟨k0, r, rfl⟩
                    repeat walk_at "m1"
                    refine sb_list (x := ik k0) (by rw [upd_ne _ _ hca]; exact hsh2) (by decide) (by decide) rfl ?_
                    repeat walk_at "m1"
                    refine sb_list (x := ik k0) (by rw [upd_ne _ _ hca]; exact hsh2) (by decide) (by decide) rfl ?_
                    repeat walk_at "m1"
                    exact ⟨.new hc0, .inr ⟨k0, r, rfl, rfl⟩⟩
                  · subst hx
                    have hks : ks = [] := by
                      cases ks with
                      | nil => rfl
                      | cons k0 r => have := hc.mpr (by simp); cases this
                    repeat walk_at "m1"
                    exact ⟨.new hc0, .inl ⟨hks, rfl⟩⟩
                · rintro v σ3 ⟨hs3, hv⟩
                  have hrow3 := hs3 _ _ hrow2
                  have hread3 := hs3 _ _ hread2
                  have hs03 := hs2.trans hs3
                  repeat walk_at "m1"
                  refine c_slid b ao'.loc hm (by omega) (fun s h1 h2 h3 h4 => ?_) (fun h4 => ?_)
                  · rcases hv with ⟨hk0, _⟩ | ⟨k0, r, hk0, rfl⟩
                    · have := hk2 s h1 h2 h3; rw [hk0] at this; cases this
                    · have hk0' := hk1 k0 (by rw [hk0]; exact .head _)
                      have hsk : s = k0 := by
                        rcases Nat.lt_trichotomy s k0 with q | q | q
                        · have := hk2 s h1 h2 h3
                          rw [hk0] at this
                          rcases List.mem_cons.mp this with q2 | q2
                          · omega
                          · have := hk4 k0 r hk0 s q2; omega
                        · exact q
                        · exact absurd hk0'.2.2 (h4 k0 hk0'.1 q)
                      subst hsk
                      repeat walk_at "m1"
                      refine cm_ne (by have := ao'.units; omega) (lev_tk ((s : Int), ((j - s + 1 : Nat) : Int))) (lev_tk _) (by decide) (fun c hc => ?_)
                      have hcf : c = false := by
                        cases c with
                        | false => rfl
                        | true => exact absurd (by congr 3; simp; omega) (hc.mp rfl)
                      subst hcf
                      repeat walk_at "m1"
                      exact ⟨hs03, hrow3, ⟨_, hread3⟩, ⟨us, rfl⟩, .cons rfl .nil⟩
                  · rcases hv with ⟨hk0, rfl⟩ | ⟨k0, r, hk0, rfl⟩
                    · repeat walk_at "m1"
                      refine cm_ne (by have := ao'.units; omega) (lev_tk ((j : Int), 0)) (lev_tk _) (by decide) (fun c hc => ?_)
                      have hcf : c = false := by
                        cases c with
                        | false => rfl
                        | true => exact absurd rfl (hc.mp rfl)
                      subst hcf
                      repeat walk_at "m1"
                      exact ⟨hs03, hrow3, ⟨_, hread3⟩, ⟨us, rfl⟩, .cons rfl .nil⟩
                    · have hk0' := hk1 k0 (by rw [hk0]; exact .head _)
                      exact absurd hk0'.2.2 (h4 k0 hk0'.1 hk0'.2.1)
      · rintro l σ' ⟨hs, hrow, hread, _, _⟩
        repeat walk_at "m1"
        exact ⟨hs, hrow, hread, m + 1, n, by congr 1, by omega⟩
    · rintro l σ' ⟨hs, hrow, hread, m, n, hys, hmn⟩
      repeat walk_at "m1"
      exact h σ' hs
end
section
variable {D : Wd} {A : Around} {stk : List (Env × Loc)} {env : Env} {l l' : Loc} {σ σ' : Sto} {s s' : Shared} {X : Value → Shared → Prop} {Q : V → Sto → Prop} {K : Fl → Loc → Sto → Prop}
theorem ex_try2 {Ep : Prop} {body suite : List Stmt} {b₀ : Stmt} {fn : Str} {np hpos pos : Pos} {outer : List Env} {K1 : Loc → Sto → Prop} (b : Bs D) (hfs : A.frames = some (env :: outer)) (hf : env.frame = some env.locals) (as : List Addr) (has : ∀ a ∈ as, ∃ o, σ a = some o)
    (hbody : ∀ (B' : Heap) (X' : Value → Shared → Prop), Bs ⟨D.w, B', D.os⟩ → (Ep → ∀ v s', Fy ⟨D.w, B', D.os⟩ A ((env, l) :: stk) v s' → X' v s') → Exs ⟨D.w, B', D.os⟩ A stk env body l (only as σ) X' fun fl l' σ' => fl = .next ∧ K1 l' σ')
    (hnorm : ∀ l' σ', K1 l' σ' → (∀ b o, σ b = some o → b ∉ as → σ' b = none) → K .next l' (mix as σ' σ))
    (hexc : Ep → ∀ e, Exs D (A.mark (some e)) stk env (b₀ :: suite) l (less as σ) X K)
    (hglob : nsIn (Kf D.w) mainGlobals fn = some (some (.ref 64)))
    (hX : ∀ e, PassesOwnAt (Mo D) (A.mark (some e)) A env X)
    (hk : env.scope.kind = .function := by rfl) (hl : env.kindOf fn = some .globalImplicit := by rfl) (hg : env.globals = mainGlobals := by rfl)
    (hd : (fn == ("__debug__" : Str)) = false := by decide) :
    Ex D A stk env (.Try body [.ExceptHandler (some (.Name fn np)) none (b₀ :: suite) hpos] [] [] pos) l σ X K := fun s G => by
  have hB : D.B.StaysIn (hideAll s.heap (fz ((env, l) :: stk) ++ as)) := fun a o e => hideAll_get _ (G.stays _ _ e) fun hm => by
    rcases List.mem_append.mp hm with hm | hm
    · obtain ⟨p, hp, rfl⟩ := List.mem_map.mp hm
      rw [(G.frs p hp).1] at e; cases e
    · obtain ⟨o', ho'⟩ := has a hm
      rw [G.fresh _ _ ho'] at e; cases e
  generalize hBB : hideAll s.heap (fz ((env, l) :: stk) ++ as) = B' at hB
  have hof : ∀ a o, B'.get? a = some o → s.heap.get? a = some o := fun a o e => by rw [← hBB] at e; exact of_hideAll _ e
  have hin : ∀ a o, s.heap.get? a = some o → a ∉ fz ((env, l) :: stk) → a ∉ as → B'.get? a = some o := fun a o e h1 h2 => by
    rw [← hBB]; exact hideAll_get _ e fun hm => (List.mem_append.mp hm).elim h1 h2
  have hno : ∀ a, a ∈ fz ((env, l) :: stk) ∨ a ∈ as → B'.get? a = none := fun a h => by
    rw [← hBB]; exact hideAll_none _ (List.mem_append.mpr h)
  have htup : ∀ a vs n, s.heap.get? a = some (tupO vs n) → B'.get? a = some (tupO vs n) := fun a vs n e => by
    refine hin a _ e (fun hm => ?_) (fun hm => ?_)
    · obtain ⟨p, hp, rfl⟩ := List.mem_map.mp hm
      obtain ⟨ob, h1, h2, _⟩ := (G.frs p hp).2.1.shape
      rw [e] at h1; cases h1; exact h2 _ _ rfl
    · obtain ⟨o', ho'⟩ := has a hm
      obtain ⟨ob, h1, h2⟩ := (G.rel _ _ ho').shape
      rw [e] at h1; cases h1; exact h2 _ _ rfl
  have hfzσ : ∀ a, a ∈ fz ((env, l) :: stk) → σ a = none := fun a hm => by
    obtain ⟨p, hp, rfl⟩ := List.mem_map.mp hm
    exact (G.frs p hp).2.2
  have hkeep : ∀ a o, σ a = some o → a ∉ as → ∃ ob, s.heap.get? a = some ob ∧ B'.get? a = some ob := fun a o e hm => by
    obtain ⟨ob, h1, _⟩ := (G.rel _ _ e).shape
    exact ⟨ob, h1, hin a ob h1 (fun q => by rw [hfzσ a q] at e; cases e) hm⟩
  have G' : Gd ⟨D.w, B', D.os⟩ ((env, l) :: stk) (only as σ) s := by
    refine ⟨hof, fun a o e => G.rel a o ?_, fun a o e => ?_, fun p hp => ⟨hno _ (.inl (List.mem_map_of_mem (f := fun p : Env × Loc => p.1.locals) hp)), (G.frs p hp).2.1, ?_⟩, G.nd, G.gens, G.os⟩
    · unfold only at e; split at e; exact e; cases e
    · unfold only at e; split at e; (rename_i h; exact hno _ (.inr h)); cases e
    · unfold only; split; exact (G.frs p hp).2.2; rfl
  have b' : Bs ⟨D.w, B', D.os⟩ := by
    obtain ⟨p, lo, mg, mb, T⟩ := b.top
    exact ⟨b.kin.keeps hB, p, lo, mg, mb, T.keeps hB⟩
  refine wpAny_Try_except (wpAny_mono (hbody B' _ b' (fun hE v s' hy => ?_) s G') (fun f s₁ h₁ => ?_) fun _ _ e => e)
  · obtain ⟨e, B₁, fs', a0, rfl, hfs', hs, hfl, hfr, hnd, hgens, hos⟩ := hy
    rw [hfs] at hfs'; cases hfs'
    refine wpAny_looks_onW hfs hf hfl fun h₄ hheld₄ hsm₄ => ?_
    refine wpAny_landsW hheld₄ fun h₅ hheld hsm₅ => ?_
    obtain ⟨pr, lo, mg, mb, T⟩ := b.top
    have st5 : D.B.StaysIn h₅ := fun a o e => hheld.1 _ _ (hs _ _ (hB _ _ e))
    refine wpAny_handleBy_cons (codeAny_handlers_test (Calls.Name_function_global hk hl (Calls.loadGlobal_global (hg ▸ T.g.keeps st5) (mg_of b.kin T.g hglob) ?_) hd)) (by intro q; cases q)
    obtain ⟨nm, q, bs, sn, sub, ab, col, dd, k0, k1, k2, k3, k5, ho⟩ := runObj D.w
    obtain ⟨ob, hob, hobc⟩ := hheld.there
    refine wpAny_excMatches_sub_self ((b.kin.keeps st5) _ _ ho) hob hobc (by decide) (codeAny_handlers_suite ?_)
    refine lands_againW hheld fun h₆ hfl₆ hsm₆ => ?_
    have hsm : s'.heap.UpToSlots h₆ := (hsm₄.trans hsm₅).trans hsm₆
    have st6 : B'.StaysIn h₆ := fun a o e => hfl₆.1 _ _ (hs _ _ e)
    have S6 : St s.heap h₆ := fun a vs n e => st6 _ _ (htup a vs n e)
    refine wpAny_passesOwnAt (hX _) (pf_mono (σ₁ := less as σ) (s₁ := { s' with heap := h₆ }) ⟨S6, fun a o e n f => ⟨st6 _ _ (hin a o e f fun hm => ?_), ?_⟩⟩ (hexc hE _ _ ?_))
    · obtain ⟨o', ho'⟩ := has a hm; rw [n] at ho'; cases ho'
    · unfold less; split; rfl; exact n
    · refine ⟨fun a o e => st6 _ _ (hB _ _ e), fun a o e => ?_, fun a o e => ?_, fun p hp => ?_, G.nd, hgens, hos⟩
      · unfold less at e
        split at e
        · cases e
        · rename_i hm
          obtain ⟨ob, h1, h2⟩ := hkeep a o e hm
          exact (G.rel a o e).at S6 fun o' e' => by rw [h1] at e'; cases e'; exact st6 _ _ h2
      · unfold less at e
        split at e
        · cases e
        · exact G.fresh a o e
      · obtain ⟨h1, m, hm, hr⟩ := hfr p hp
        refine ⟨(G.frs p hp).1, ⟨m, hsm.ns hm, hr.st (.keeps fun a o e => hfl₆.1 _ _ e)⟩, ?_⟩
        unfold less; split; rfl; exact (G.frs p hp).2.2
  · obtain ⟨fl, l', σ', ⟨rfl, hK⟩, rf, g', t'⟩ := h₁
    cases rf
    have st1 : B'.StaysIn s₁.heap := g'.stays
    refine wpAny_execs_nil ⟨_, l', mix as σ' σ, hnorm _ _ hK (fun b o e hm => by
      obtain ⟨ob, h1, _⟩ := hkeep b o e hm
      exact (t'.tr b ob h1 (by unfold only; rw [if_neg hm]) (fun q => by rw [hfzσ b q] at e; cases e)).2), .next, ⟨fun a o e => st1 _ _ (hB _ _ e), fun a o e => ?_, fun a o e => ?_, fun p hp => ?_, g'.nd, g'.gens, g'.os⟩, ⟨fun a vs n e => st1 _ _ (htup a vs n e), fun a o e n f => ⟨st1 _ _ (hin a o e f fun hm => ?_), ?_⟩⟩⟩
    · unfold mix at e
      split at e
      · rename_i q; cases e; exact g'.rel a o q
      · split at e
        · cases e
        · rename_i hm
          obtain ⟨ob, h1, h2⟩ := hkeep a o e hm
          exact (G.rel a o e).at (fun a vs n e => st1 _ _ (htup a vs n e)) fun o' e' => by rw [h1] at e'; cases e'; exact st1 _ _ h2
    · unfold mix at e
      split at e
      · rename_i q; cases e
        have h1 : B'.get? a = none := g'.fresh a o q
        cases h2 : D.B.get? a with
        | none => rfl
        | some ob => rw [hB _ _ h2] at h1; cases h1
      · split at e
        · cases e
        · exact G.fresh a o e
    · obtain ⟨h1, h2, h3⟩ := g'.frs p hp
      have hps : p.1.locals ∈ fz ((env, l) :: stk) := by
        rcases List.mem_cons.mp hp with rfl | hp
        · exact .head _
        · exact .tail _ (List.mem_map_of_mem (f := fun p : Env × Loc => p.1.locals) hp)
      refine ⟨?_, h2, ?_⟩
      · cases q : D.B.get? p.1.locals with
        | none => rfl
        | some ob => have h1' : B'.get? p.1.locals = none := h1
                     rw [hB _ _ q] at h1'; cases h1'
      · unfold mix; rw [h3]; simp only; split; rfl; exact hfzσ _ hps
    · obtain ⟨o', ho'⟩ := has a hm; rw [n] at ho'; cases ho'
    · have hno' : a ∉ as := fun hm => by obtain ⟨o', ho'⟩ := has a hm; rw [n] at ho'; cases ho'
      have h1 : (only as σ) a = none := by unfold only; rw [if_neg hno']
      unfold mix
      rw [(t'.tr a o e h1 f).2]
      simp only
      rw [if_neg hno']
      exact n

theorem ex_cutK {st : Stmt} {K' : Fl → Loc → Sto → Prop} (h : Ex D A stk env st l σ X K') (k : ∀ fl l σ, K' fl l σ → K fl l σ) : Ex D A stk env st l σ X K := fun s G => wpAny_mono (h s G) (fun _ _ ⟨fl, l', σ', q, r⟩ => ⟨fl, l', σ', k _ _ _ q, r⟩) fun _ _ e => e
/-- the parameter text of so many delimiters -/
def parm (d : Tks) : Nat → Tks
  | 0 => []
  | n + 1 => parm d n ++ ((9, ((n + 1 : Nat) : Int)) :: d)
theorem segs_letters {d : Tks} (hd : ∀ x ∈ d, isL x) : ∀ (sg : List Tks) (x r : Tks), segs (sg ++ [x]) (d ++ r) = segs (sg ++ [x ++ d]) r ∧ (good (sg ++ [x]) (d ++ r) ↔ good (sg ++ [x ++ d]) r) := by
  induction d with
  | nil => intro sg x r; simp
  | cons t d ih =>
    intro sg x r
    have ht : t.1 ≠ 9 := by have := hd t (.head _); unfold isL at this; omega
    obtain ⟨h1, h2⟩ := ih (fun y hy => hd y (.tail _ hy)) sg (x ++ [t]) r
    constructor
    · rw [List.cons_append, segs_cons, if_neg ht, List.dropLast_concat, List.getLast?_concat, Option.getD_some, h1]; simp
    · rw [List.cons_append]
      show (if t.1 = 9 then _ else good _ _) ↔ _
      rw [if_neg ht, List.dropLast_concat, List.getLast?_concat, Option.getD_some, h2]; simp
theorem segs_row {d : Tks} (hd : ∀ x ∈ d, isL x) (sg : List Tks) (r : Tks) : segs sg (((9, (sg.length : Int)) :: d) ++ r) = segs (sg ++ [d]) r ∧ (sg.length ≤ 9 → good (sg ++ [d]) r → good sg (((9, (sg.length : Int)) :: d) ++ r)) := by
  obtain ⟨h1, h2⟩ := segs_letters hd sg [] r
  constructor
  · rw [List.cons_append, segs_cons, if_pos rfl, h1]; simp
  · intro h9 hg
    rw [List.cons_append]
    show (if (9 : Int) = 9 then _ else _)
    rw [if_pos rfl]
    exact ⟨rfl, h9, h2.mpr (by simpa using hg)⟩
theorem parm_ok {d : Tks} (hd : ∀ x ∈ d, isL x) {cnt : Nat} (hc : cnt = 1 ∨ cnt = 2) : good [[]] (parm d cnt) ∧ segs [[]] (parm d cnt) = [] :: List.replicate cnt d := by
  rcases hc with rfl | rfl
  · obtain ⟨h1, h2⟩ := segs_row hd [[]] []
    have e : parm d 1 = ((9, (([[]] : List Tks).length : Int)) :: d) ++ [] := by simp [parm]
    rw [e]
    exact ⟨h2 (by simp) trivial, by rw [h1]; rfl⟩
  · obtain ⟨h1, h2⟩ := segs_row hd [[], d] []
    obtain ⟨h3, h4⟩ := segs_row hd [[]] (((9, (([[], d] : List Tks).length : Int)) :: d) ++ [])
    have e : parm d 2 = ((9, (([[]] : List Tks).length : Int)) :: d) ++ (((9, (([[], d] : List Tks).length : Int)) :: d) ++ []) := by simp [parm]
    rw [e]
    exact ⟨h4 (by simp) (h2 (by simp) trivial), by rw [h3]; show segs [[], d] _ = _; rw [h1]; rfl⟩
theorem First.unique {d ts : Tks} {p q : Nat} (h1 : First d ts p) (h2 : First d ts q) : p = q := by
  rcases Nat.lt_trichotomy p q with h | h | h
  · exact absurd h1.1 (h2.2 p h)
  · exact h
  · exact absurd h2.1 (h1.2 q h)
theorem Args.unique {d : Tks} {n : Nat} {ts rest rest' : Tks} {gs gs' : List Tks} (h : Args d n ts gs rest) : Args d n ts gs' rest' → gs = gs' ∧ rest = rest' := by
  induction h generalizing gs' rest' with
  | zero ts => intro h; cases h; exact ⟨rfl, rfl⟩
  | succ hF _ ih =>
    intro h
    cases h with
    | succ hF' h' =>
      have := hF.unique hF'
      subst this
      obtain ⟨h1, h2⟩ := ih h'
      exact ⟨by rw [h1], h2⟩
theorem NoA.not {d : Tks} {n : Nat} {ts rest : Tks} {gs : List Tks} (h : NoA d n ts) : ¬ Args d n ts gs rest := by
  induction h generalizing gs rest with
  | here hno => intro h; cases h with | succ hF _ => exact hno _ hF.1
  | later hF _ ih => intro h; cases h with | succ hF' h' =>
                                             have := hF.unique hF'
                                             subst this
                                             exact ih h'
theorem parm_last {d : Tks} (hd : d ≠ []) (hl : ∀ x ∈ d, isL x) {cnt : Nat} (hc : cnt = 1 ∨ cnt = 2) : ∃ t, (parm d cnt).getLast? = some t ∧ t.1 ≠ 1 := by
  have h : ∀ n, (parm d (n + 1)).getLast? = d.getLast? := fun n => by
    show (parm d n ++ ((9, _) :: d)).getLast? = _
    rw [List.getLast?_append, List.getLast?_cons]
    cases d with
    | nil => exact absurd rfl hd
    | cons a d => simp [List.getLast?_cons]
  obtain ⟨t, ht⟩ : ∃ t, d.getLast? = some t := ⟨_, List.getLast?_eq_some_getLast hd⟩
  have hm : isL t := hl t (List.mem_of_getLast? ht)
  refine ⟨t, ?_, by unfold isL at hm; omega⟩
  rcases hc with rfl | rfl <;> rw [h, ht]
theorem parm_len {d : Tks} (hd : d.length ≤ 9) : ∀ n, (parm d n).length ≤ n * 10
  | 0 => by simp [parm]
  | n + 1 => by
    have := parm_len hd n
    show (parm d n ++ ((9, _) :: d)).length ≤ _
    rw [List.length_append, List.length_cons]; omega
end
section
variable {D : Wd} {A : Around} {stk : List (Env × Loc)} {env : Env} {l l' : Loc} {σ σ' : Sto} {s s' : Shared} {X : Value → Shared → Prop} {Q : V → Sto → Prop} {K : Fl → Loc → Sto → Prop}
abbrev tt (g : Tks) : V := .tup (g.map tk)
theorem args_len {d : Tks} {n : Nat} {ts rest : Tks} {gs : List Tks} (h : Args d n ts gs rest) : gs.length = n ∧ rest.length ≤ ts.length := by
  induction h with
  | zero ts => exact ⟨rfl, Nat.le_refl _⟩
  | succ _ _ ih => exact ⟨by simp [ih.1], by have := ih.2; rw [List.length_drop] at this; omega⟩
theorem c_call_right {a dl : Addr} {ts d : Tks} {cnt : Nat} (b : Bs D) (ao : Ao A stk 9) (ha : σ a = some (.lst (ts.map tk))) (hdl : σ dl = some (.lst (d.map tk))) (hw : wf false ts) (htok : ∀ t ∈ ts, Tok t) (hz : ts.length ≤ 40) (hd : d ≠ []) (hdz : d.length ≤ 9) (hdL : ∀ x ∈ d, isL x) (hc : cnt = 1 ∨ cnt = 2)
    (h : ∀ σ', Q (.bool true) σ') : Cl D A stk (.ref 312) [.ref a, .ref dl, .int (cnt : Int)] σ X Q := by
  refine cl_def (names := [Str.ofString "text", Str.ofString "delimiter", Str.ofString "count"]) (xs := [.ref a, .ref dl, .int (cnt : Int)]) (ys := []) (ws := []) b ao rfl (by kernel_rfl) ?hb .nil ?hl ?body
  case hb =>
    intro s vs _ hv
    match vs, hv with
    | [x, y, z], _ => exact BindsTo.of_eq rfl
  case hl => rfl
  case body =>
    intro L hL A' hA ao'
    subst hA
    simp only [List.zip_cons_cons, List.zip_nil_right, List.append_nil, List.reverse_cons, List.reverse_nil, List.nil_append, List.cons_append] at ao' ⊢
    have hc2 : cnt ≤ 2 := by omega
    refine exs_cons (ex_tup2s ao'.handled ?_)
    repeat walk_at "m1"
    intro ad had
    repeat walk_at "m1"
    refine ⟨_, _, rfl, ?_⟩
    have hs0 : Sup σ (upd σ ad (.lst [])) := .new had
    have had0 : (upd σ ad (.lst [])) ad = some (.lst (([] : List Tks).map tt)) := upd_self _ _ _
    generalize (upd σ ad (.lst [])) = σ0 at *
    refine nx_next (exs_cons (ex_cutK (K' := fun fl l σ' => fl = .next ∧ Sup σ σ' ∧ ∃ (dueV : V) (at_ : Nat), Sub [(Str.ofString "at", V.int (at_ : Int)), (Str.ofString "due", dueV), (Str.ofString "count", V.int (cnt : Int)), (Str.ofString "delimiter", .ref dl), (Str.ofString "text", .ref a)] l ∧ ((∃ (gs : List Tks), dueV = .ref ad ∧ Args d cnt ts gs (ts.drop at_) ∧ σ' ad = some (.lst (gs.map tt)) ∧ at_ ≤ ts.length) ∨
      (dueV = .none ∧ NoA d cnt ts))) (ex_for_range b ao'.handled ?_ PassesOwn.leaving (by rfl)) ?rest))
    · repeat walk_at "m1"
      refine ⟨0, (cnt : Int), .inr ⟨rfl, rfl⟩, by omega, by omega, by omega, by omega, fun ys l σ' => Sup σ σ' ∧ ∃ (j at_ : Nat) (gs : List Tks), ys.length = j ∧ j + gs.length ≤ 2 ∧ (∀ gs' rest, Args d j (ts.drop at_) gs' rest → Args d cnt ts (gs ++ gs') rest) ∧ (NoA d j (ts.drop at_) → NoA d cnt ts) ∧ σ' ad = some (.lst (gs.map tt)) ∧ at_ ≤ ts.length ∧
        Sub [(Str.ofString "at", V.int (at_ : Int)), (Str.ofString "due", .ref ad), (Str.ofString "count", V.int (cnt : Int)), (Str.ofString "delimiter", .ref dl), (Str.ofString "text", .ref a)] l, ⟨hs0, cnt, 0, [], by simp [rgI], by simpa using hc2, fun _ _ e => e, fun e => e, had0, by omega, ?_⟩, ?_, ?_⟩
      · exact .cons rfl (.cons rfl (.cons rfl (.cons rfl (.cons rfl .nil))))
      · rintro y ys l σ' ⟨hs, j, at_, gs, hj, hj2, hA1, hA2, hga, hat, hS⟩
        simp only [List.length_cons] at hj
        obtain ⟨j, rfl⟩ : ∃ i, j = i + 1 := ⟨j - 1, by omega⟩
        refine exs_loc (.head hS) ?_
        repeat walk_at "m1"
        have ha1 := hs _ _ ha
        have hd1 := hs _ _ hdl
        refine c_found b ao'.loc ha1 hd1 (by omega) (by omega) hat (fun p σ1 hF hs1 => ?_) (fun σ1 hno hs1 => ?_)
        · repeat walk_at "m1"
          have ha2 := hs1 _ _ ha1
          have hd2 := hs1 _ _ hd1
          have hga2 := hs1 _ _ hga
          refine ⟨ad, _, rfl, hga2, ?_⟩
          repeat walk_at "m1"
          refine sl_list ha2 (.int _) (.int _) .none (by decide) (size_le (by simp; omega)) (fun b1 hb1 => ?_)
          rw [pick_nat, Nat.add_sub_cancel_left, ← List.map_drop, ← List.map_take]
          have hs2 : Sup σ1 (upd σ1 b1 (.lst (((ts.drop at_).take p).map tk))) := .new hb1
          repeat walk_at "m1"
          refine c_bare b ao'.loc (upd_self _ _ _) (by simp; omega) (fun σ2 hs3 => ?_)
          have hga3 := hs3 _ _ (hs2 _ _ hga2)
          have hd3 := hs3 _ _ (hs2 _ _ hd2)
          repeat walk_at "m1"
          refine cl_append hga3 (size_le (by simp; omega)) ?_
          repeat walk_at "m1"
          have hda : dl ≠ ad := fun q => by rw [q] at hdl; rw [had] at hdl; cases hdl
          refine cl_len_list (by rw [upd_ne _ _ hda]; exact hd3) (size_le (by simp; omega)) ?_
          repeat walk_at "m1"
          have hM := hF.1.1
          rw [List.length_drop] at hM
          refine ⟨fun c o e => ?_, j, at_ + p + d.length, gs ++ [bareL ((ts.drop at_).take p)], by omega, by simp; omega, fun gs' rest e => ?_, fun e => hA2 (.later hF (by rw [List.drop_drop, ← Nat.add_assoc]; exact e)), by rw [upd_self]; simp, by omega, .cons (congrArg (fun i => some (V.int i)) (by simp)) (.cons rfl (.cons rfl (.cons rfl (.cons rfl .nil))))⟩
          · rw [upd_ne _ _ (fun q => by rw [q, had] at e; cases e)]
            exact hs3 _ _ (hs2 _ _ (hs1 _ _ (hs _ _ e)))
          · rw [List.append_assoc]
            exact hA1 _ _ (.succ hF (by rw [List.drop_drop, ← Nat.add_assoc]; exact e))
        · repeat walk_at "m1"
          exact ⟨rfl, hs.trans hs1, .none, at_, .cons rfl (.cons rfl (.cons rfl (.cons rfl (.cons rfl .nil)))), .inr ⟨rfl, hA2 (.here hno)⟩⟩
      · rintro l σ' ⟨hs, j, at_, gs, hj, hj2, hA1, hA2, hga, hat, hS⟩
        have hj0 : j = 0 := by simpa using hj.symm
        subst hj0
        refine ⟨rfl, hs, .ref ad, at_, hS, .inl ⟨gs, rfl, ?_, hga, hat⟩⟩
        have := hA1 [] _ (.zero _)
        rw [List.append_nil] at this
        exact this
    case rest =>
      rintro fl l σ1 ⟨rfl, hs1, dueV, at_, hS, hcase⟩
      refine nx_loc hS ?_
      repeat walk_at "m1"
      intro R hR
      repeat walk_at "m1"
      have hR0 : σ R = none := by
        cases q : σ R with
        | none => rfl
        | some o => have := hs1 _ _ q; rw [hR] at this; cases this
      refine ex_for_range b ao'.handled ?_ PassesOwn.leaving (by rfl)
      repeat walk_at "m1"
      refine ⟨0, (cnt : Int), .inr ⟨rfl, rfl⟩, by omega, by omega, by omega, by omega, fun ys l σ' => Sup σ1 σ' ∧ ∃ (i n : Nat), ys = rgI (i : Int) n ∧ i + n = cnt ∧ σ' R = some (.lst ((parm d i).map tk)) ∧ Sub [(Str.ofString "rows", .ref R), (Str.ofString "at", V.int (at_ : Int)), (Str.ofString "due", dueV), (Str.ofString "count", V.int (cnt : Int)), (Str.ofString "delimiter", .ref dl), (Str.ofString "text", .ref a)] l,
        ⟨.new hR, 0, cnt, by simp, by simp, upd_self _ _ _, .cons rfl (.cons rfl (.cons rfl (.cons rfl (.cons rfl (.cons rfl .nil)))))⟩, ?_, ?_⟩
      · rintro y ys l σ' ⟨hs2, i, n, hys, hin, hRi, hS2⟩
        obtain ⟨n, rfl, rfl, rfl⟩ := rgI_cons hys.symm
        refine exs_loc (.head hS2) ?_
        have hd2 := hs2 _ _ (hs1 _ _ hdl)
        have hpl := parm_len hdz i
        repeat walk_at "m1"
        refine ⟨R, _, rfl, hRi, ?_⟩
        repeat walk_at "m1"
        intro c1 hc1
        repeat walk_at "m1"
        refine op_cat (upd_self _ _ _) (by rw [upd_ne _ _ (fun q => by rw [← q, hd2] at hc1; cases hc1)]; exact hd2) (sz_le (by simp; omega)) (fun c2 hc2' => ?_)
        repeat walk_at "m1"
        have s1 := (Sup.new (o := O.lst [V.tup [V.int 9, V.int ((i : Int) + 1)]]) hc1).trans (Sup.new (o := O.lst ([V.tup [V.int 9, V.int ((i : Int) + 1)]] ++ d.map tk)) hc2')
        refine cl_extend (s1 _ _ hRi) (upd_self _ _ _) (sz_le (by simp; omega)) ?_
        repeat walk_at "m1"
        refine ⟨fun c o e => ?_, i + 1, n, by congr 1, by omega, ?_, .cons rfl (.cons rfl (.cons rfl (.cons rfl (.cons rfl (.cons rfl .nil)))))⟩
        · rw [upd_ne _ _ (fun q => by rw [q, hR] at e; cases e)]
          exact s1 _ _ (hs2 _ _ e)
        · rw [upd_self]; simp [parm]
      · rintro l σ' ⟨hs2, i, n, hys, hin, hRi, hS2⟩
        have hn0 := rgI_nil hys.symm
        have hic : i = cnt := by omega
        subst hic
        refine nx_loc hS2 ?_
        have ha2 := hs2 _ _ (hs1 _ _ ha)
        repeat walk_at "m1"
        refine c_feed b ao'.loc ha2 (by omega) htok (fun f dx r σ3 hs3 hf0 hdx0 hr0 F => ?_)
        repeat walk_at "m1"
        have hR3 := hs3 _ _ hRi
        have ha3 := hs3 _ _ ha2
        obtain ⟨fs, hfs, _⟩ := ao.frames
        have hRr : R ≠ r := fun q => by rw [q, hr0] at hRi; cases hRi
        have hRf : R ≠ f := fun q => by rw [q, hf0] at hRi; cases hRi
        have hRd : R ≠ dx := fun q => by rw [q, hdx0] at hRi; cases hRi
        have haR : a ≠ R := fun q => by rw [← q, hs1 _ _ ha] at hR; cases hR
        have har : a ≠ r := fun q => by rw [← q, ha2] at hr0; cases hr0
        have haf : a ≠ f := fun q => by rw [← q, ha2] at hf0; cases hf0
        have hadx : a ≠ dx := fun q => by rw [← q, ha2] at hdx0; cases hdx0
        have hrf : r ≠ f := fun q => by have := F.obj; rw [← q, F.rest] at this; cases this
        have hrd : r ≠ dx := fun q => by have := F.dict; rw [← q, F.rest] at this; cases this
        refine ex_try2 (Ep := NoA d i ts) (K1 := fun l' σ' => ∃ ta gs rest, l' = (Str.ofString "told", V.ref ta) :: [(Str.ofString "feed", V.ref f), (Str.ofString "rows", .ref R), (Str.ofString "at", V.int (at_ : Int)), (Str.ofString "due", dueV), (Str.ofString "count", V.int (i : Int)), (Str.ofString "delimiter", .ref dl), (Str.ofString "text", .ref a)] ∧ Args d i ts gs rest ∧ σ' ta = some (.lst (gs.map tt)) ∧ Fd σ' f dx r rest) b
          (by show A.frames.map (_ :: ·) = _; rw [hfs]; rfl) rfl [R, f, dx, r] ?_ ?hbody ?hnorm ?hexc (by rfl) (fun e => PassesOwnAt.leaving)
        · intro c hc
          simp only [List.mem_cons, List.not_mem_nil, or_false] at hc
          rcases hc with rfl | rfl | rfl | rfl
          · exact ⟨_, hR3⟩
          · exact ⟨_, F.obj⟩
          · exact ⟨_, F.dict⟩
          · exact ⟨_, F.rest⟩
        case hbody =>
          intro B' X' b' hX'
          have hR4 : (only [R, f, dx, r] σ3) R = some (.lst ((parm d i).map tk)) := by unfold only; rw [if_pos (by simp)]; exact hR3
          have F4 : Fd (only [R, f, dx, r] σ3) f dx r ts := ⟨by unfold only; rw [if_pos (by simp)]; exact F.obj, by unfold only; rw [if_pos (by simp)]; exact F.dict, by unfold only; rw [if_pos (by simp)]; exact F.rest⟩
          generalize only [R, f, dx, r] σ3 = σ4 at *
          have hpl := parm_len hdz i
          obtain ⟨hg1, hg2⟩ := parm_ok hdL hc
          obtain ⟨tl, ht1, ht2⟩ := parm_last hd hdL hc
          repeat walk_at "m1"
          refine cl_tuple_list hR4 (size_le (by simp; omega)) ?_
          repeat walk_at "m1"
          refine c_macro b' ao'.loc (by omega) hg1 (fun mc mdx σ5 hs5 hm0 hmd0 M => ?_)
          rw [hg2] at M
          repeat walk_at "m1"
          refine c_arguments (par := (0, 0)) b' ao'.loc ⟨hs5 _ _ F4.obj, hs5 _ _ F4.dict, hs5 _ _ F4.rest⟩ M (by omega) ht1 ht2 (by omega) (by omega) hd hdL (by omega) hw (fun t ht q => ?_) (fun hno v s' hy => hX' hno v s' ?_) (fun gs rest ta σ6 hA hK hr6 hta hta0 => ?_)
          · have := htok t ht; rw [q] at this; rcases this.1 with h | h | h <;> cases h
          · exact hy
          · repeat walk_at "m1"
            exact ⟨rfl, ta, gs, rest, rfl, hA, hta, Fd.kp ⟨hs5 _ _ F4.obj, hs5 _ _ F4.dict, hs5 _ _ F4.rest⟩ hK hr6⟩
        case hnorm =>
          rintro l' σ5 ⟨ta, gs, rest, rfl, hA, hta, F6⟩ hnone
          rcases hcase with ⟨gs', rfl, hA', hga, hat⟩ | ⟨rfl, hno⟩
          · obtain ⟨hgs, hrest⟩ := hA.unique hA'
            subst hgs hrest
            have hga' := hs2 _ _ hga
            have hga3 := hs3 _ _ hga'
            have hasn : ∀ {c o}, σ' c = some o → c ≠ R → c ∉ [R, f, dx, r] := fun {c o} e hcR hm => by
              simp only [List.mem_cons, List.not_mem_nil, or_false] at hm
              rcases hm with q | q | q | q
              · exact hcR q
              · rw [q, hf0] at e; cases e
              · rw [q, hdx0] at e; cases e
              · rw [q, hr0] at e; cases e
            have hadR : ad ≠ R := fun q => by rw [q, hR] at hga; cases hga
            have hm1 : ∀ {c o}, σ5 c = some o → mix [R, f, dx, r] σ5 σ3 c = some o := fun {c o} e => by unfold mix; rw [e]
            have hm2 : ∀ {c o}, σ' c = some o → c ≠ R → mix [R, f, dx, r] σ5 σ3 c = some o := fun {c o} e hcR => by
              have h1 := hasn e hcR
              unfold mix
              rw [hnone c o (hs3 _ _ e) h1]
              simp only
              rw [if_neg h1]
              exact hs3 _ _ e
            have ma := hm2 ha2 haR
            have mad := hm2 hga' hadR
            have mta := hm1 hta
            have mF : Fd (mix [R, f, dx, r] σ5 σ3) f dx r (ts.drop at_) := ⟨hm1 F6.obj, hm1 F6.dict, hm1 F6.rest⟩
            generalize mix [R, f, dx, r] σ5 σ3 = σ7 at *
            obtain ⟨hgl, _⟩ := args_len hA
            repeat walk_at "m1"
            refine cm_isnot_none (fun c hc => ?_) (by intro v q; cases q)
            have : c = true := hc.mpr (by simp)
            subst this
            repeat walk_at "m1"
            refine cm_eq_list (n := 51) (m := 51) (by have := ao'.units; omega) mta mad (fun x hx => by obtain ⟨g, _, rfl⟩ := List.mem_map.mp hx; exact lev_ttk g) (fun x hx => by obtain ⟨g, _, rfl⟩ := List.mem_map.mp hx; exact lev_ttk g) (by decide) (fun c hc => ?_)
            have : c = true := hc.mpr rfl
            subst this
            repeat walk_at "m1"
            refine ev_imeth b (cs_feed _) (by rfl) ⟨_, rfl, rfl⟩ (by kernel_rfl) (y := none) (by rw [typeLookup_type, builtinLookup_eq_fast]; kernel_rfl) ?_
            repeat walk_at "m1"
            refine ⟨f, dx, _, rfl, mF.obj, mF.dict, rfl, ?_⟩
            repeat walk_at "m1"
            refine c_left b ao'.loc mF (by rw [List.length_drop]; omega) (fun c1 hc1 => ?_)
            repeat walk_at "m1"
            have hac1 : a ≠ c1 := fun q => by rw [q, hc1] at ma; cases ma
            refine sl_list (by rw [upd_ne _ _ hac1]; exact ma) (.int at_) .none .none (by decide) (size_le (by simp; omega)) (fun c2 hc2' => ?_)
            rw [pick_from, ← List.map_drop]
            have hc12 : c1 ≠ c2 := fun q => by rw [← q, upd_self] at hc2'; cases hc2'
            refine cm_eq_list (n := 50) (m := 50) (by have := ao'.units; omega) (by rw [upd_ne _ _ hc12, upd_self]) (upd_self _ _ _) (lev_tks _) (lev_tks _) (by decide) (fun c hc => ?_)
            have : c = true := hc.mpr rfl
            subst this
            repeat walk_at "m1"
            exact h _
          · exact absurd hA hno.not
        case hexc =>
          intro hno e
          rcases hcase with ⟨gs', rfl, hA', hga, hat⟩ | ⟨rfl, _⟩
          · exact absurd hA' hno.not
          · repeat walk_at "m1"
            refine cm_is_none (fun c hc _ => ?_) (by intro v q; cases q)
            have : c = true := hc.mpr rfl
            subst this
            repeat walk_at "m1"
            exact h _
end
section
theorem fin_law {w : World} {s₁ : Shared} {h₁ : Heap} {m : Str → Option Value} {tk' : PySem.Tok} {L : Addr} {env : Env} {A : Around} {body : List Stmt} {E : Value → Shared → Prop} {QQ : Flow → Shared → Prop} {sa : Addr}
    {p : Program} {loose : List Str} {mean : ExcName → Option Value} {mg mb : Str → Option Value}
    (F : Fr s₁.heap L h₁ m) (KX : (Kf w).In s₁.heap) (T : Top p loose mean mg mb s₁.heap) (hg : s₁.gens = #[]) (hm : m (Str.ofString "script") = some (.ref sa)) (henv : env.locals = L)
    {ns : List Int} (hI : IntList ⟨w, s₁.heap, s₁.os⟩ sa ns) (hn : ns.length ≤ 63)
    (hE : ∀ sa ns, IntList ⟨w, s₁.heap, s₁.os⟩ sa ns → ns.length ≤ 63 → Bs ⟨w, s₁.heap, s₁.os⟩ → Exs ⟨w, s₁.heap, s₁.os⟩ A [] env body [(Str.ofString "script", .ref sa)] (fun _ => none) E (fun fl _ _ => fl = .ret (.bool true)))
    (hQ : ∀ s' m', Fr s₁.heap L s'.heap m' → s'.gens = #[] → s'.os = s₁.os → QQ (.ret (.bool true)) s') :
    wpAny (model P w) A (execs body env) QQ E ⟨h₁, s₁.gens, s₁.drawn, tk', s₁.os⟩ := by
  subst henv
  have hL : s₁.heap.get? env.locals = none := by
    cases q : s₁.heap.get? env.locals with
    | none => rfl
    | some o => exact absurd (Nat.lt_of_lt_of_le (Heap.lt_size q) F.above) (Nat.lt_irrefl _)
  have b : Bs ⟨w, s₁.heap, s₁.os⟩ := ⟨KX, _, _, _, _, topRead_of T⟩
  have G : Gd ⟨w, s₁.heap, s₁.os⟩ [(env, [(Str.ofString "script", .ref sa)])] (fun _ => none) ⟨h₁, s₁.gens, s₁.drawn, tk', s₁.os⟩ := by
    refine ⟨F.keep, fun a o e => (by cases e), fun a o e => (by cases e), fun q hq => ?_, by simp, hg, rfl⟩
    rw [List.mem_singleton.mp hq]
    refine ⟨hL, ⟨m, F.ns, fun y v e => ?_⟩, rfl⟩
    rw [List.lookup_cons] at e
    by_cases q : (y == Str.ofString "script") = true
    · rw [q] at e; cases e
      rw [beq_iff_eq.mp q]
      exact ⟨_, hm, .ref _⟩
    · rw [Bool.not_eq_true] at q; rw [q] at e; cases e
  refine wpAny_mono (hE sa ns hI hn b _ G) (fun fl s' h => ?_) fun _ _ e => e
  obtain ⟨fl', l', σ', rfl, rf, g, t⟩ := h
  cases rf with
  | ret r =>
    cases r
    obtain ⟨_, ⟨m', hm', _⟩, _⟩ := g.frs _ (.head _)
    exact hQ s' m' ⟨hm', g.stays, F.above⟩ g.gens g.os
theorem Src.sup {σ σ' : Sto} {a : Addr} {k : Int} (h : Src σ a k) (s : Sup σ σ') : Src σ' a k := let ⟨w, c, m, h1, h2⟩ := h; ⟨w, c, m, s _ _ h1, h2⟩
theorem letters_ok {xs : Tks} (h : ∀ t ∈ xs, Ltr t) : wf false xs := by
  induction xs with
  | nil => trivial
  | cons t xs ih => exact .inl ⟨(h t (.head _)).isL, ih fun x hx => h x (.tail _ hx)⟩
end
theorem ao_top {name : Str} {scope : Scope} {L fa : Addr} {cd : Value} {l : Mine.Loc} (hk : scope.kind = .function) : Mine.Ao (callerA.deeper (envOf name scope L fa cd)) [(envOf name scope L fa cd, l)] 12 :=
  ⟨rfl, ⟨_, rfl, fun e he => by rw [List.mem_singleton.mp he]; exact ⟨.head _, rfl, by show scope.kind ≠ .module; rw [hk]; decide⟩⟩, (by show 1 + 300 + 1 + 2 * 12 < recursionLimit; decide), (by show 4 + 3 + 6 * 12 + 200 < cLine; decide)⟩
end Mine
theorem PySem.Challenge.cw_sq0028_01_holds : PySem.Challenge.rw_sq0028_01.Holds :=
  Mine.Hq.hd (by
  k_go0
  rename Fr _ _ _ _ => hF
  rename Top _ _ _ _ _ _ => hT
  rename Frag.In _ _ => hKX
  rename Shared.gens _ = #[] => hgens
  rename IntsAre _ _ => hInts
  rename Heap.IsList _ _ _ => hLst
  rename ¬ _ => hlen
  refine Mine.fin_law hF hKX hT hgens rfl rfl ⟨⟨_, hLst, hInts⟩⟩ (by omega) (fun sa ns hI hn b => ?_) (fun s' m' hF' hg' ho' => ?_)
  · dsimp only
    refine exs_cons (ex_tup2 rfl ?_)
    repeat walk_at "m1"
    refine ⟨_, _, rfl, ?_⟩
    repeat walk_at "m1"
    intro c1 hc1
    repeat walk_at "m1"
    intro c2 hc2
    repeat walk_at "m1"
    have h12 : c1 ≠ c2 := fun q => by rw [← q, upd_self] at hc2; cases hc2
    refine c_call_right (ts := [(11, 97), (11, 98), (11, 97), (11, 98), (11, 97), (11, 98), (11, 97), (11, 97), (11, 98)]) (d := [(11, 97), (11, 98), (11, 97), (11, 98), (11, 97), (11, 97)]) (cnt := 1) b (Ao.down (ao_top rfl)) (by rw [upd_ne _ _ h12, upd_self]; rfl) (upd_self _ _ _) (letters_ok (by simp [Ltr])) (by simp [Mine.Tok]) (by simp) (by simp) (by simp) (by simp [isL]) (.inl rfl) (fun σ' => ?_)
    repeat walk_at "m1"
    refine ex_for_range b rfl ?_ PassesOwn.leaving (by rfl)
    repeat walk_at "m1"
    refine cl_len_base hI (size_le (by omega)) ?_
    repeat walk_at "m1"
    refine cl_min rfl ?_
    repeat walk_at "m1"
    refine cl_max rfl ?_
    repeat walk_at "m1"
    refine ⟨0, _, .inr ⟨rfl, rfl⟩, by omega, by omega, by (split <;> split <;> omega), by (split <;> split <;> omega), fun ys l σ' => (∃ k n : Nat, ys = rgI (k : Int) n ∧ k + n ≤ 4) ∧ Sub [(Str.ofString "script", V.ref sa)] l, ⟨⟨0, _, rfl, by (split <;> split <;> omega)⟩, .cons rfl .nil⟩, ?_, ?_⟩
    · rintro y ys l σ' ⟨⟨k, n, hys, hkn⟩, hS⟩
      obtain ⟨n, rfl, rfl, rfl⟩ := rgI_cons hys.symm
      refine exs_loc (.head hS) ?_
      repeat walk_at "m1"
      refine sl_list_base hI .none (show PartV (V.int 40) (some ((40 : Nat) : Int)) from .int _) .none (by decide) (size_le (by omega)) (fun b1 hb1 => ?_)
      rw [pick_to, ← List.map_take]
      repeat walk_at "m1"
      refine c_cell (ns := ns.take 40) (k := k) b (Ao.down (ao_top rfl)) (upd_self _ _ _) (by simp; omega) (by omega) (fun c σ1 w m hs hc0 hc hw hm hm2 => ?_)
      have hsrc : Src σ1 c 0 := ⟨w, 0, m, hc, hw, by decide, by decide, hm, hm2⟩
      repeat walk_at "m1"
      refine c_delim b (Ao.down (ao_top rfl)) hsrc (by decide) (fun dl σ2 d hd hdz hL hsrc2 hK2 hd0 hdl => ?_)
      have hdc : dl ≠ c := fun q => by rw [q, hc] at hd0; cases hd0
      repeat walk_at "m1"
      refine c_slid_right b (Ao.down (ao_top rfl)) hdl (by omega) hd (fun σ3 hs3 => ?_)
      have hsrc3 := hsrc2.sup hs3
      have hdl3 := hs3 _ _ hdl
      repeat walk_at "m1"
      refine c_text b (Ao.down (ao_top rfl)) hsrc3 (by omega) hdl3 hd hdz hL (fun tx σ4 ts hwf htok hlen hsrc4 hK4 ht0 htx => ?_)
      have htc : tx ≠ c := fun q => by rw [q] at ht0; exact hsrc3.ne ht0
      have hdl4 := hK4 _ _ hdc hdl3
      repeat walk_at "m1"
      refine c_take' b (Ao.down (ao_top rfl)) hsrc4 (by omega) ⟨by decide, by decide⟩ (fun r σ5 h0 h2 hsrc5 hK5 => ?_)
      obtain ⟨r, rfl⟩ : ∃ i : Nat, r = i := ⟨r.toNat, by omega⟩
      repeat walk_at "m1"
      rw [show (1 : Int) + (r : Int) = ((r + 1 : Nat) : Int) by push_cast; omega]
      refine c_call_right (ts := ts) (d := d) (cnt := r + 1) b (Ao.down (ao_top rfl)) (hK5 _ _ htc htx) (hK5 _ _ hdc hdl4) hwf htok (by omega) hd hdz (fun x hx => (hL x hx).isL) (by omega) (fun σ6 => ?_)
      repeat walk_at "m1"
      exact ⟨⟨k + 1, n, rfl, by omega⟩, .cons rfl .nil⟩
    · rintro l σ' _
      repeat walk_at "m1"
      rfl
  · refine goodW_bool hF' hg' (raisesW_false ?_) ?_ ho'
    · wrow_none_raised
    · wrow_post)
