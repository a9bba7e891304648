import PyProof.Rows.All
import Wide.All
import OpenK.AllK
import Wide.FinOn
import Lean
import PySem.Challenge.RW_pb0475_01
open PySem PySem.W PySem.Calls PyProof.Rows PySem.Spec
set_option Elab.async true
set_option maxRecDepth 100000
set_option compiler.extract_closed false
set_option linter.unusedVariables false
set_option maxHeartbeats 40000000
namespace Mine
section
variable {prog : Program} {w : World} {A : Around} {E : Value → Shared → Prop} {s : Shared}
theorem int_no_item {value : PySem.Expr} {a b : Option PySem.Expr} {p : Pos} {k : Int} {t : Tok} {i : Value} {Q : Value → Shared → Prop} (hh : A.handled = none)
    (h : ∀ h' tk e, Heap.NewExc s.heap h' e "TypeError" → E (.ref e) { s with heap := h', toks := tk }) :
    wpAny (model prog w) A (subscriptTail value (.Slice a b none p) (.int k t) i) Q E s := by
  have hT : s.TypeIs (.int k t) "int" := typeIs_int s k t
  have hl : typeLookup (.type "int") (Str.ofString "__getitem__") = pure none := by with_unfolding_all rfl
  unfold subscriptTail
  refine wpAny_bind ?_
  rw [getitemInPython_of_ne hT.not_modules]
  refine wpAny_bind (wpAny_specialOf hT hl ?_)
  have fin : wpAny (model prog w) A (subscripted (.Slice a b none p) false (.int k t) i) (fun r s₃ => wpAny (model prog w) A (letTemporaryGo value (.int k t) r >>= fun _ => pure r) Q E s₃) E s := by
    show wpAny _ _ (operate [i, .int k t] (getItem (.int k t) i)) _ _ _
    refine wpAny_operating ?_
    unfold getItem
    refine wpAny_holding (wpAny_bind ?_)
    unfold sequenceKey
    refine wpAny_bind (wpAny_typeOf hT ?_)
    refine wpAny_pure ?_
    refine wpAny_bind (wpAny_callSpecial?_none hT hl ?_)
    refine wpAny_bind (wpAny_of_eq (show isType (.int k t) = pure false from rfl) ?_)
    refine wpAny_bind (wpAny_typeNameOf' hT (by decide) ?_)
    exact wpAny_raiseTypeError hh h
  first
    | exact wpAny_pure (wpAny_bind fin)
    | exact wpAny_bind (wpAny_pure (wpAny_bind fin))
    | exact wpAny_bind fin
end
theorem leave_CW {c : ClaimW} {cl : Str → Option Addr} {h₀ : Heap} {args : List WData} {M : Model} {A : Around} {s₁ s' : Shared} {name : Str} {scope : Scope} {L a e : Addr} {cd : Value} {m : Str → Option Value} {h : Heap} {cls : String}
    (hfr : A.frames = some []) (F : Fr s₁.heap L h m) (hx : Heap.NewExc h s'.heap e cls) (hg : s'.gens = #[]) (hr : c.raises args (.builtin cls) = true)
    (hos : s'.os = s₁.os := by rfl) (hkf : scope.kind = .function := by rfl) :
    wpAny M (A.deeper (envOfC name scope L a cd)) (leaving (envOfC name scope L a cd) (.ref e)) (fun _ s'' => GoodW c cl (ExcName.means h₀) args s₁ (.error (.ref e)) s'') (fun e' s'' => GoodW c cl (ExcName.means h₀) args s₁ (.error e') s'') s' :=
  wpAny_mono (wpAny_mono (leave_newC (r := raiser (.builtin cls)) (args := []) hfr F hx hg (raiser_raises _) hos hkf) (fun _ _ x => Good2.to3 h₀ x) (fun _ _ x => Good2.to3 h₀ x)) (fun _ _ x => goodW_of_raiser hr x) (fun _ _ x => goodW_of_raiser hr x)
end Mine
def Mine.row0 : OpenRow := { PySem.Challenge.rw_pb0475_01.row with args := [.int], raises := [(.builtin "TypeError", .lit (.bool true))], post := .lit (.bool true), pre := .lit (.bool true) }
def Mine.hd0.tw1347276711482885108 : Nat := 0
def Mine.hd0.tw1964151592259241686 : Nat := 0
def Mine.hd0.tw1389663046417831361 : Nat := 0
def Mine.hd0.tw8393696564115457014 : Nat := 0
def Mine.hd0.tw10236485129801162741 : Nat := 0
def Mine.hd0.tw11853132457319813446 : Nat := 0
def Mine.hd0.tw10825008675572579055 : Nat := 0
def Mine.hd0.tw13448176657100887490 : Nat := 0
def Mine.hd0.tw5205403133583416241 : Nat := 0
def Mine.hd0.tw17005725794679118683 : Nat := 0
def Mine.hd0.tw12059694035914756220 : Nat := 0
def Mine.hd0.tw8330566291976316301 : Nat := 0
def Mine.hd0.tw1972567903023862274 : Nat := 0
def Mine.hd0.tw12171275057740431642 : Nat := 0
def Mine.hd0.tw9699008465174831797 : Nat := 0
def Mine.hd0.tw11022318320698770054 : Nat := 0
def Mine.hd0.tw8564636846374195338 : Nat := 0
def Mine.hd0.tw16634546614452758871 : Nat := 0
def Mine.hd0.tw3902642683502923877 : Nat := 0
def Mine.hd0.tw4362339590307168383 : Nat := 0
def Mine.hd0.tw5083571094942531710 : Nat := 0
def Mine.hd0.tw5497643321735027644 : Nat := 0
def Mine.hd0.tw17998732546299578792 : Nat := 0
def Mine.hd0.tw10069731379804114837 : Nat := 0
def Mine.hd0.tw1191622958437496830 : Nat := 0
def Mine.hd0.tw3832096840286635077 : Nat := 0
def Mine.hd0.tw1359104647744391194 : Nat := 0
def Mine.hd0.tw12118671535382520970 : Nat := 0
def Mine.hd0.tw4747281084397564757 : Nat := 0
def Mine.hd0.tw10831172887324590962 : Nat := 0
def Mine.hd0.tw13860332498241106628 : Nat := 0
def Mine.hd0.tw839443794188527141 : Nat := 0
def Mine.hd0.tw16577491470658047865 : Nat := 0
def Mine.hd0.tw7731734453053413589 : Nat := 0
def Mine.hd0.tw891186494875849158 : Nat := 0
def Mine.hd0.tw15005460686244068168 : Nat := 0
def Mine.hd0.tw179991387133551241 : Nat := 0
def Mine.hd0.tw1237551924186500246 : Nat := 0
def Mine.hd0.tw17132104802792603634 : Nat := 0
def Mine.hd0.tw3466419429004618768 : Nat := 0
def Mine.hd0.tw1087435185961119440 : Nat := 0
def Mine.hd0.tw10297934492154968163 : Nat := 0
def Mine.hd0.tw309277354587492579 : Nat := 0
def Mine.hd0.tw16463593755247147200 : Nat := 0
def Mine.hd0.tw8284464484006228044 : Nat := 0
def Mine.hd0.tw7609028302745033977 : Nat := 0
def Mine.hd0.tw15429971745270200749 : Nat := 0
def Mine.hd0.tw14397348241044380734 : Nat := 0
def Mine.hd0.tw9126222054196385890 : Nat := 0
def Mine.hd0.tw14502001302391087502 : Nat := 0
def Mine.hd0.tw5428070130070536091 : Nat := 0
def Mine.hd0.tw6014977574509414443 : Nat := 0
def Mine.hd0.tw14751195016474515691 : Nat := 0
def Mine.hd0.tw12665113834384165610 : Nat := 0
def Mine.hd0.tw16057218211864961754 : Nat := 0
def Mine.hd0.tw8016032594811649588 : Nat := 0
def Mine.hd0.tw18353199073579788961 : Nat := 0
def Mine.hd0.tw15764005096722370900 : Nat := 0
def Mine.hd0.tw1277909223561221377 : Nat := 0
def Mine.hd0.tw5429866549726478036 : Nat := 0
def Mine.hd0.tw5476550517563732157 : Nat := 0
def Mine.hd0.tw13800483763300068865 : Nat := 0
def Mine.hd0.tw2280702184356970510 : Nat := 0
def Mine.hd0.tw4837166207565515596 : Nat := 0
def Mine.hd0.tw18416291653570748741 : Nat := 0
def Mine.hd0.tw12782592981888142045 : Nat := 0
def Mine.hd0.tw7970355855660570498 : Nat := 0
def Mine.hd0.tw13130983519766148356 : Nat := 0
def Mine.hd0.tw2338661219346607142 : Nat := 0
def Mine.hd0.tw15543821095186356926 : Nat := 0
def Mine.hd0.tw17557899024913747603 : Nat := 0
def Mine.hd0.tw14210159926740337751 : Nat := 0
def Mine.hd0.tw4958161400511572651 : Nat := 0
def Mine.hd0.tw16799398214865156367 : Nat := 0
def Mine.hd0.tw13786618180910815691 : Nat := 0
def Mine.hd0.tw12782906062734576069 : Nat := 0
def Mine.hd0.tw8052174542758884176 : Nat := 0
def Mine.hd0.tw539940733940218950 : Nat := 0
def Mine.hd0.tw12407471169438301300 : Nat := 0
def Mine.hd0.tw666637029103987267 : Nat := 0
def Mine.hd0.tw17623544462552871726 : Nat := 0
def Mine.hd0.tw12949994812025541312 : Nat := 0
def Mine.hd0.tw15621366761432239028 : Nat := 0
def Mine.hd0.tw10992540420993761691 : Nat := 0
def Mine.hd0.tw1967676767884184963 : Nat := 0
def Mine.hd0.tw7614193382627860833 : Nat := 0
def Mine.hd0.tw17637000432345029825 : Nat := 0
def Mine.hd0.tw7359261033328424013 : Nat := 0
def Mine.hd0.tw444321031296666723 : Nat := 0
def Mine.hd0.tw284370698878744938 : Nat := 0
def Mine.hd0.tw12003068471920674386 : Nat := 0
def Mine.hd0.tw10783142842391291914 : Nat := 0
def Mine.hd0.tw6663726501131112074 : Nat := 0
def Mine.hd0.tw994453967162580088 : Nat := 0
def Mine.hd0.tw10722490830574553991 : Nat := 0
def Mine.hd0.tw17965875459906211518 : Nat := 0
def Mine.hd0.tw15129630465062437422 : Nat := 0
def Mine.hd0.tw8753875272357604297 : Nat := 0
def Mine.hd0.tw10893015288667660014 : Nat := 0
def Mine.hd0.tw1830908064365640755 : Nat := 0
def Mine.hd0.tw866052350247734544 : Nat := 0
def Mine.hd0.tw3771890792122485445 : Nat := 0
def Mine.hd0.tw474916242839058 : Nat := 0
def Mine.hd0.tw8464541185895156213 : Nat := 0
def Mine.hd0.tw17781076316100833504 : Nat := 0
def Mine.hd0.tw9563851893216371074 : Nat := 0
def Mine.hd0.tw14139502865228493775 : Nat := 0
def Mine.hd0.tw16269486087580614188 : Nat := 0
def Mine.hd0.tw7895234915340226546 : Nat := 0
def Mine.hd0.tw13143500989680652158 : Nat := 0
def Mine.hd0.tw1597637715128213681 : Nat := 0
def Mine.hd0.tw6304940225609730636 : Nat := 0
def Mine.hd0.tw14574581053450234351 : Nat := 0
def Mine.hd0.tw5851460317537991607 : Nat := 0
def Mine.hd0.tw6649401386675659039 : Nat := 0
def Mine.hd0.tw15960652031959596643 : Nat := 0
def Mine.hd0.tw7026590804218146370 : Nat := 0
def Mine.hd0.tw1280484567907817961 : Nat := 0
def Mine.hd0.tw15883065056585263411 : Nat := 0
def Mine.hd0.tw15233396900245208191 : Nat := 0
def Mine.hd0.tw1958745321591857818 : Nat := 0
def Mine.hd0.tw901327545473398541 : Nat := 0
def Mine.hd0.tw17011805984709885637 : Nat := 0
def Mine.hd0.tw11759931035086368862 : Nat := 0
def Mine.hd0.tw8428931017558521197 : Nat := 0
def Mine.hd0.tw3563376653281826072 : Nat := 0
def Mine.hd0.tw1904828551985836751 : Nat := 0
def Mine.hd0.tw14997161635575945179 : Nat := 0
def Mine.hd0.tw16112634630230434484 : Nat := 0
def Mine.hd0.tw17953067251519666585 : Nat := 0
def Mine.hd0.tw13396925332426190305 : Nat := 0
def Mine.hd0.tw3640104315449746964 : Nat := 0
def Mine.hd0.tw7415385052924869713 : Nat := 0
def Mine.hd0.tw3465554795787012971 : Nat := 0
def Mine.hd0.tw3687841886611527418 : Nat := 0
def Mine.hd0.tw17312371794062739880 : Nat := 0
def Mine.hd0.tw8708807820475274586 : Nat := 0
def Mine.hd0.tw3233326631691786436 : Nat := 0
def Mine.hd0.tw14364967241312749879 : Nat := 0
def Mine.hd0.tw14487139744964632365 : Nat := 0
def Mine.hd0.tw2738655298557570645 : Nat := 0
def Mine.hd0.tw1779554380871787090 : Nat := 0
def Mine.hd0.tw14905831658627392255 : Nat := 0
def Mine.hd0.tw6865537962405302380 : Nat := 0
def Mine.hd0.tw2919583234286436895 : Nat := 0
def Mine.hd0.tw3153493263474777528 : Nat := 0
def Mine.hd0.tw201601121702685456 : Nat := 0
def Mine.hd0.tw4863585562482331352 : Nat := 0
def Mine.hd0.tw3801753739915242578 : Nat := 0
def Mine.hd0.tw4582842965409387306 : Nat := 0
def Mine.hd0.tw12056577157831287533 : Nat := 0
def Mine.hd0.tw12457655390460550545 : Nat := 0
def Mine.hd0.tw6643238626148955698 : Nat := 0
def Mine.hd0.tw5721069425725921740 : Nat := 0
def Mine.hd0.tw10834066803405267298 : Nat := 0
def Mine.hd0.tw10260036693505685281 : Nat := 0
def Mine.hd0.tw3149825195295114616 : Nat := 0
def Mine.hd0.tw14727694407236729852 : Nat := 0
def Mine.hd0.tw14341870401148061235 : Nat := 0
def Mine.hd0.tw7236157760442490695 : Nat := 0
def Mine.hd0.tw3801730876566874525 : Nat := 0
def Mine.hd0.tw10299701338536963064 : Nat := 0
def Mine.hd0.tw12482913051474129847 : Nat := 0
def Mine.hd0.tw16866877141584463672 : Nat := 0
def Mine.hd0.tw15389241651499710389 : Nat := 0
def Mine.hd0.tw13969635912206726010 : Nat := 0
def Mine.hd0.tw8413799840646086991 : Nat := 0
def Mine.hd0.tw3949515639412079851 : Nat := 0
def Mine.hd0.tw5677135109947497480 : Nat := 0
def Mine.hd0.tw9385747698160950831 : Nat := 0
def Mine.hd0.tw4597174426631724057 : Nat := 0
def Mine.hd0.tw8907265306392417265 : Nat := 0
def Mine.hd0.tw7836344262993359910 : Nat := 0
def Mine.hd0.tw9001251600818444179 : Nat := 0
def Mine.hd0.tw3478441296818514767 : Nat := 0
def Mine.hd0.tw7079748053240274874 : Nat := 0
def Mine.hd0.tw17828249871568911703 : Nat := 0
def Mine.hd0.tw11810131695468439018 : Nat := 0
def Mine.hd0.tw17788234752527007362 : Nat := 0
def Mine.hd0.tw1371689408390092745 : Nat := 0
def Mine.hd0.tw14449037358852596738 : Nat := 0
def Mine.hd0.tw1078058097833363317 : Nat := 0
def Mine.hd0.tw5484117130419629514 : Nat := 0
def Mine.hd0.tw3352384854717104398 : Nat := 0
def Mine.hd0.tw5366906053448781924 : Nat := 0
def Mine.hd0.tw11713894155979806921 : Nat := 0
def Mine.hd0.tw1673108226327096836 : Nat := 0
def Mine.hd0.tw12171479601555845635 : Nat := 0
def Mine.hd0.tw13823000061887915914 : Nat := 0
def Mine.hd0.tw7937780131228529215 : Nat := 0
def Mine.hd0.tw14861641958691549802 : Nat := 0
def Mine.hd0.tw11342738394816991558 : Nat := 0
def Mine.hd0.tw2431039718480141022 : Nat := 0
def Mine.hd0.tw4345986799964169788 : Nat := 0
def Mine.hd0.tw17167256753883008182 : Nat := 0
def Mine.hd0.tw8575195297261919627 : Nat := 0
section
set_option hygiene false in
local macro_rules | `(tactic| walk_at "subscriptTail") => `(tactic| (k_here; (with_reducible show wpAny _ _ (subscriptTail _ (PySem.Expr.Slice _ _ none _) (Value.int _ _) _) _ _ _); k_dflt (refine' Mine.int_no_item ?hh ?_; (case hh => exact rfl)); intro h' tk' e' nx'))
theorem Mine.hd0 : OpenRow.Holds Mine.row0 := by
  w_on; k_head; (case hw => exact ⟨[.int 3], by decide +kernel, by decide +kernel⟩)
  w_strict (k_go0; (all_goals try k_fold))
  k_steps
  rename Fr _ _ _ _ => FF
  refine Mine.leave_CW (hx := nx') rfl (by first | exact FF | exact FF.push _ | k_asm) (by assumption) ?_
  wrow_raised

end
set_option Elab.async false
namespace Mine

/- small helpers that print the tactics of the rows below: the compiled rows stay small -/
section
open Lean
set_option hygiene false
abbrev TQ := TSyntax `tactic
def q (t : Unhygienic TQ) : TQ := t.run
def qt (t : Unhygienic Term) : Term := t.run
def wd (s : String) : List String := s.splitOn " "
def id1 (s : String) : Ident := mkIdent s.toName
def ids (s : String) : Array Ident := ((wd s).map id1).toArray
def kx (s : String) : TQ := let s := Syntax.mkStrLit s; q `(tactic| k_extra $s:str)
/-- a tactic that is one word, and one that is a word and a name -/
def w1 (k s : String) : TQ := ⟨.node .none k.toName #[.atom .none s]⟩
def pw (s x : String) : TQ := ⟨.node .none ("PySem.W.tactic" ++ s.capitalize ++ "_").toName #[.atom .none s, id1 x]⟩
def tk (s : String) : TQ :=
  if s.startsWith "m:" then kx s else if s == "assumption" then w1 "Lean.Parser.Tactic.assumption" s else if s == "rfl" then w1 "Lean.Parser.Tactic.tacticRfl" s
  else if s == "size_fits" then w1 "tacticSize_fits" s else if s == "omega" then q `(tactic| omega) else if s == "decide" then q `(tactic| decide) else if s == "intros" then q `(tactic| intros)
  else if s == "dsimp_only" then q `(tactic| dsimp only) else w1 ("PySem.W.tactic" ++ s.capitalize) s
def hl (x : String) : Term :=
  if x == "_" then qt `(_) else if x == "?_" then qt `(?_) else if x.startsWith "?" then
    let i := id1 (x.drop 1).toString
    qt `(?$i:ident)
  else id1 x
def ap (f : String) (as : List Term) : Term := let f := id1 f; let as := as.toArray; qt `($f $as*)
def tm (s : String) : Term :=
  match wd s with
  | [f] => hl f
  | f :: as => ap f (as.map hl)
  | [] => hl "_"
def an (as : List Term) : Term := let as := as.toArray; qt `(⟨$as,*⟩)
def byT (t : TQ) : Term := qt `((by $t:tactic))
def rf (t : Term) : TQ := q `(tactic| refine' $t)
def re (t : Term) : TQ := q `(tactic| refine $t)
def ex (t : Term) : TQ := q `(tactic| exact $t)
def hv (n : String) (t : Term) : TQ := let n := id1 n; q `(tactic| have $n:ident := $t)
def sq (ts : List TQ) : TQ := let ts := ts.toArray; q `(tactic| ($[$ts:tactic];*))
def fi (ts : List TQ) : TQ := let ts := ts.toArray; q `(tactic| first $[| $ts:tactic]*)
def th (a b : TQ) : TQ := q `(tactic| ($a:tactic <;> $b:tactic))
def tr (t : TQ) : TQ := q `(tactic| try $t:tactic)
def wr (t : TQ) : TQ := q `(tactic| with_reducible $t:tactic)
def wu (t : TQ) : TQ := q `(tactic| with_unfolding_all $t:tactic)
def df (t : TQ) : TQ := q `(tactic| k_dflt ($t:tactic))
def cs (n : String) (t : TQ) : TQ := let n := id1 n; q `(tactic| case $n:ident => $t:tactic)
def cls : List String → List TQ
  | n :: k :: r => cs n (tk k) :: cls r
  | _ => []
def cl (s : String) : TQ := sq (cls (wd s))
def cxs : List String → List TQ
  | f :: k :: r => ex (ap f (List.replicate k.toNat! (byT (kx "m:arg")))) :: cxs r
  | _ => []
def cx (s : String) : TQ := fi (cxs (wd s))
def rn (f : String) (n : String) : TQ := let f := tm f; let n := id1 n; q `(tactic| rename $f => $n)
def it (s : String) : TQ := let as := ids s; q `(tactic| intro $as*)
def clr (s : String) : TQ := let as := ids s; q `(tactic| clear $as*)
def unf (s : String) : TQ := let as := ids s; q `(tactic| unfold $as*)
def dsa (s : String) : TQ := let as := ids s; q `(tactic| dsimp only at $as*)
def dso (s : String) : TQ := let as := ids s; q `(tactic| dsimp only [$[$as:ident],*])
def so (s : String) : TQ := let as := ids s; q `(tactic| simp only [$[$as:ident],*])
def soa (s h : String) : TQ := let as := ids s; let h := ids h; q `(tactic| simp only [$[$as:ident],*] at $h*)
def shw (t : Term) : TQ := q `(tactic| with_reducible show wpAny _ _ $t _ _ _)
def num (n : Nat) : Term := Syntax.mkNumLit (toString n)
def shc (n : Nat) : TQ := shw (ap "call" [ap "Value.ref" [num n], tm "_"])
def stop : TQ := re (tm "Stop.mk ?_")
end

abbrev Led := List (Addr × Obj)
abbrev ArH (hn : Option Value) (dp un : Nat) (gd : Option (List Code)) (cn : Str) (cs : Scope) (L a : Addr) (ccd : Value) (cl : List (Str × Addr)) (outer : List Env) : Around :=
  { handled := hn, depth := dp, frames := some (envX cn cs L a ccd cl :: outer), guards := gd, units := un }

@[irreducible] def Sp (w : World) (hn : Option Value) (D : Nat) (f : Value) (vs : List Value) (news : Led) (Post : Value → Led → Prop) : Prop :=
  ∀ (dp un : Nat) (gd : Option (List Code)) (cn : Str) (cs : Scope) (a : Addr) (ccd : Value) (cl : List (Str × Addr)) (outer : List Env) (A₀ : Around) (base h₀ : Heap) (L : Addr) (m : Str → Option Value)
    (mean : ExcName → Option Value) (mg mb : Str → Option Value) (s : Shared) (Q E : Value → Shared → Prop),
    Below A₀ base outer h₀ → Fr h₀ L s.heap m → (Mine.hd0.heap_1_1 w.params).In h₀ → News h₀ L s.heap news → Top Mine.hd0.view_1_2 (looseW Mine.hd0.view_1_2 [Str.ofString "PaperError"]) mean mg mb h₀ → cs.kind = .function →
    dp + D < recursionLimit → un + 8 * D < cLine →
    (∀ r nn h' tk', Fr h₀ L h' m → News h₀ L h' (nn ++ news) → (∀ q ∈ nn, AllLt q.1 news) → Post r nn → Q r { s with heap := h', toks := tk' }) →
    wpAny (model PySem.Challenge.rw_pb0475_01.row.prog w) (ArH hn dp un gd cn cs L a ccd cl outer) (call f vs) Q E s

/-- the dict of a decimal -/
abbrev decD (w : World) (t p : Int) (k1 k2 k3 k4 : Tok) : Obj :=
  dictOf [⟨PyData.keyHash w.params (Str.ofString "top"), .str (Str.ofString "top") k1, .int t k2⟩, ⟨PyData.keyHash w.params (Str.ofString "places"), .str (Str.ofString "places") k3, .int p k4⟩] 2

theorem m_upd {a b : Str} {m0 : Str → Option Value} {p p' t t' : Option Value} :
    (fun y => if y = a then p' else if y = b then t' else if y = a then p else if y = b then t else m0 y) = (fun y => if y = a then p' else if y = b then t' else m0 y) := by
  funext y
  by_cases h1 : y = a <;> by_cases h2 : y = b <;> simp [h1, h2]
theorem m_ini {a b : Str} {m0 : Str → Option Value} {p t : Value} (h1 : m0 a = some p) (h2 : m0 b = some t) :
    m0 = (fun y => if y = a then some p else if y = b then some t else m0 y) := by
  funext y
  by_cases e1 : y = a
  · simp [e1, h1]
  · by_cases e2 : y = b
    · subst e2; simp [e1, h2]
    · simp [e1, e2]


section
variable {w : World} {hn : Option Value} {D : Nat} {f : Value} {vs : List Value} {news : Led} {Post : Value → Led → Prop}
  {dp un : Nat} {gd : Option (List Code)} {cn : Str} {cs : Scope} {a : Addr} {ccd : Value} {cl : List (Str × Addr)} {outer : List Env} {A₀ : Around} {base h₀ : Heap} {L : Addr} {m : Str → Option Value}
    {mean : ExcName → Option Value} {mg mb : Str → Option Value} {s : Shared} {Q E : Value → Shared → Prop}
theorem sp_use (B : Below A₀ base outer h₀) (F : Fr h₀ L s.heap m) (X : (Mine.hd0.heap_1_1 w.params).In h₀) (N : News h₀ L s.heap news) (T : Top Mine.hd0.view_1_2 (looseW Mine.hd0.view_1_2 [Str.ofString "PaperError"]) mean mg mb h₀) (hk : cs.kind = .function)
    (C : Sp w hn D f vs news Post) (hd : dp + D < recursionLimit) (hu : un + 8 * D < cLine)
    (ret : ∀ r nn h' tk', Fr h₀ L h' m → News h₀ L h' (nn ++ news) → (∀ q ∈ nn, AllLt q.1 news) → Post r nn → Q r { s with heap := h', toks := tk' }) :
    wpAny (model PySem.Challenge.rw_pb0475_01.row.prog w) (ArH hn dp un gd cn cs L a ccd cl outer) (call f vs) Q E s := by
  unfold Sp at C
  exact C _ _ _ _ _ _ _ _ _ _ _ _ _ _ _ _ _ _ _ _ B F X N T hk hd hu ret
end

section
variable {prog : Program} {w : World} {A : Around} {E : Value → Shared → Prop} {s : Shared} {a b : Int} {t u : Tok} {Q : Value → Shared → Prop}
theorem abs_nn (h0 : 0 ≤ a) (h : ∀ u tk, Q (.int a u) { s with toks := tk }) : wpAny (model prog w) A (call (.builtin "abs") [.int a t]) Q E s :=
  call_abs_int fun u tk => by rw [if_neg (by omega)]; exact h u tk
theorem log2_64 {b : Int} (hb : 0 < b) (hl : b < 18446744073709551616) : b.natAbs.log2 < 9000 :=
  Nat.lt_trans ((Nat.log2_lt (by omega)).mpr (show b.natAbs < 2 ^ 64 by omega)) (by decide)
theorem fdiv_nn (hb : 0 < b) (hl : b < 18446744073709551616) (h : Q (.int (a / b) s.toks) { s with toks := s.toks + 1 }) : wpAny (model prog w) A (binaryOp .FloorDiv (.int a t) (.int b u)) Q E s :=
  floordiv_int (by omega) (by rw [Int.fdiv_eq_ediv_of_nonneg a (Int.le_of_lt hb)]; exact h) (Or.inl (PyProof.noPylong_of_log2 (log2_64 hb hl)))
theorem fmod_nn (hb : 0 < b) (hl : b < 18446744073709551616) (h : Q (.int (a % b) s.toks) { s with toks := s.toks + 1 }) : wpAny (model prog w) A (binaryOp .Mod (.int a t) (.int b u)) Q E s :=
  mod_int' (by omega) (by rw [Int.fmod_eq_emod_of_nonneg a (Int.le_of_lt hb)]; exact h)
end
theorem mulok_l {a b : Int} (h1 : -18446744073709551616 < a) (h2 : a < 18446744073709551616) : IntMulOk a b := .of_left (intBits_le_64 (by omega) (by omega))
theorem mulok_r {a b : Int} (h1 : -18446744073709551616 < b) (h2 : b < 18446744073709551616) : IntMulOk a b := .of_right (intBits_le_64 (by omega) (by omega))
section
variable {prog : Program} {w : World} {A : Around} {E : Value → Shared → Prop} {s : Shared} {h₀ : Heap} {L : Addr} {news : Led} {value slice : PySem.Expr} {l : Addr} {vs : List Value} {n : Nat} {k : Int} {u : Tok} {v : Value} {Q : Value → Shared → Prop}
theorem item_L (N : News h₀ L s.heap news) (hm : (l, listOf vs.toArray n) ∈ news) (h0 : 0 ≤ k) (hhi : k < 2 ^ 63) (hx : vs[k.toNat]? = some v) (h : Q v s)
    (hs : subscripted slice false (.ref l) (.int k u) = operate [.ref l, .int k u] (getItem (.ref l) (.int k u))) :
    wpAny (model prog w) A (subscriptTail value slice (.ref l) (.int k u)) Q E s :=
  have hl : s.heap.IsList l vs.toArray := News.isList N hm
  tail_any hl.typeIs slot_list_getitem.lookup (wpAny_getItem_list hl h0 hhi (by simpa using hx) h) hs
theorem seqIdx {k : Int} {n : Nat} (h0 : 0 ≤ k) (h1 : k.toNat < n) : seqIndex? k n = some k.toNat := by
  unfold seqIndex?
  first
    | (rw [if_neg (by omega)]; simp; omega)
    | (simp; omega)
    | (split <;> simp_all <;> omega)
theorem item_T (N : News h₀ L s.heap news) (hm : (l, ({ cls := .type "tuple", data := .seq vs.toArray n } : Obj)) ∈ news) (h0 : 0 ≤ k) (hhi : k < 2 ^ 63) (hx : vs[k.toNat]? = some v) (h : Q v s)
    (hs : subscripted slice false (.ref l) (.int k u) = operate [.ref l, .int k u] (getItem (.ref l) (.int k u))) :
    wpAny (model prog w) A (subscriptTail value slice (.ref l) (.int k u)) Q E s :=
  item_tupleT (News.isTup N hm) (by omega) hhi (seqIdx h0 (List.getElem?_eq_some_iff.mp hx).1) hx h hs
end
def sg (x : Int) : Int := if x = 0 then 0 else if x > 0 then 1 else -1

theorem mulok_sg {a x : Int} : IntMulOk a (sg x) := by
  have h : -1 ≤ sg x ∧ sg x ≤ 1 := by unfold sg; (repeat' split) <;> omega
  exact mulok_r (by omega) (by omega)
theorem p10_pos (n : Nat) : 0 < (10 : Int) ^ n := Int.pow_pos (by decide)
theorem p10_le {n m : Nat} (h : n ≤ m) : (10 : Int) ^ n ≤ 10 ^ m := by
  obtain ⟨k, rfl⟩ := Nat.le.dest h
  rw [Int.pow_add]
  have h1 := p10_pos n
  have h2 := p10_pos k
  have h3 := Int.mul_le_mul_of_nonneg_left (show (1 : Int) ≤ 10 ^ k by omega) (Int.le_of_lt h1)
  rw [Int.mul_one] at h3
  exact h3
theorem p10_lt {n : Nat} (h : n ≤ 19) : (10 : Int) ^ n < 18446744073709551616 := Int.lt_of_le_of_lt (p10_le h) (by decide)
theorem mulok_p10 {a : Int} {n : Nat} (h : n ≤ 19) : IntMulOk a (10 ^ n) := mulok_r (Int.lt_trans (by decide) (p10_pos n)) (p10_lt h)

/-- the value of a decimal (t, p) is X / 10 ^ 12, and p is at most n -/
def DV (t p : Int) (n : Nat) (X : Int) : Prop := 0 ≤ p ∧ p ≤ n ∧ n ≤ 12 ∧ t * 10 ^ (12 - p.toNat) = X
def PInt (X : Int) (r : Value) (nn : Led) : Prop := nn = [] ∧ ∃ t, r = .int X t
def PBool (b : Bool) (r : Value) (nn : Led) : Prop := nn = [] ∧ r = .bool b
def PSame (v : Value) (r : Value) (nn : Led) : Prop := nn = [] ∧ r = v
def PDec (w : World) (n : Nat) (X : Int) (r : Value) (nn : Led) : Prop :=
  ∃ a dx k1 k2 k3 k4 t p, r = .ref a ∧ nn = [(a, instObj 155 dx), (dx, decD w t p k1 k2 k3 k4)] ∧ dx < a ∧ DV t p n X
theorem allLt_up {b a : Addr} (h : b < a) : ∀ {l : Led}, AllLt b l → AllLt a l
  | [], _ => trivial
  | _ :: _, k => ⟨Nat.lt_trans k.1 h, allLt_up h k.2⟩
theorem fresh2 {news : Led} {a b : Addr} {o1 o2 : Obj} (l1 : ∀ p ∈ news, p.1 < b) (l2 : b < a) : ∀ q ∈ [(a, o1), (b, o2)], AllLt q.1 news := by
  intro q hq
  have h := allLt_of l1
  rcases List.mem_cons.mp hq with rfl | hq
  · exact allLt_up l2 h
  · rw [List.mem_singleton.mp hq]; exact h
theorem fresh2' {news : Led} {a b : Addr} {o1 o2 : Obj} (l1 : AllLt b news) (l2 : b < a) : ∀ q ∈ [(a, o1), (b, o2)], AllLt q.1 news := by
  intro q hq
  rcases List.mem_cons.mp hq with rfl | hq
  · exact allLt_up l2 l1
  · rw [List.mem_singleton.mp hq]; exact l1
theorem fresh0 {news : Led} : ∀ q ∈ ([] : Led), AllLt q.1 news := fun _ h => nomatch h
theorem dec_turn {T P p t : Int} (hP : P ≤ p) (hm : T % 10 = 0) (h : T * 10 ^ (p - P).toNat = t) : T / 10 * 10 ^ (p - (P - 1)).toNat = t := by
  have e : (p - (P - 1)).toNat = (p - P).toNat + 1 := by omega
  have e2 : T = T / 10 * 10 := by omega
  rw [e, Int.pow_succ, ← h]
  conv => rhs; rw [e2]
  rw [Int.mul_assoc, Int.mul_comm 10]
theorem sp_post {w : World} {hn : Option Value} {D : Nat} {f : Value} {vs : List Value} {news : Led} {Post Post' : Value → Led → Prop} (C : Sp w hn D f vs news Post) (h : ∀ r nn, Post r nn → Post' r nn) : Sp w hn D f vs news Post' :=
  by
  unfold Sp at C ⊢
  exact fun _ _ _ _ _ _ _ _ _ _ _ _ _ _ _ _ _ _ _ _ B F X N T hk hd hu ret => C _ _ _ _ _ _ _ _ _ _ _ _ _ _ _ _ _ _ _ _ B F X N T hk hd hu fun r nn h' tk' F' N' l p => ret r nn h' tk' F' N' l (h r nn p)
theorem tn_split {P p : Int} (h : 0 ≤ P) (h2 : P ≤ p) (h3 : p ≤ 12) : 12 - P.toNat = (p - P).toNat + (12 - p.toNat) := by
  obtain ⟨a, rfl⟩ := Int.eq_ofNat_of_zero_le h
  obtain ⟨b, hb⟩ := Int.eq_ofNat_of_zero_le (Int.sub_nonneg_of_le h2)
  have e : p = ((a + b : Nat) : Int) := by omega
  rw [hb, e, Int.toNat_natCast, Int.toNat_natCast, Int.toNat_natCast]
  omega
theorem dv_new {T P p t : Int} (h2 : 0 ≤ P) (h3 : P ≤ p) (v2 : p ≤ 12) (h4 : T * 10 ^ (p - P).toNat = t) : DV T P p.toNat (t * 10 ^ (12 - p.toNat)) := by
  have e := tn_split h2 h3 v2
  exact ⟨h2, by omega, by omega, by rw [e, Int.pow_add, ← h4, Int.mul_assoc]⟩
/-- two ints at one scale -/
def Sc (o1 o2 pl : Int) (n : Nat) (X1 X2 : Int) : Prop := 0 ≤ pl ∧ pl ≤ n ∧ n ≤ 12 ∧ o1 * 10 ^ (12 - pl.toNat) = X1 ∧ o2 * 10 ^ (12 - pl.toNat) = X2
theorem sc_mk0 {t p q X : Int} {n : Nat} (h : DV t p n X) (h1 : p ≤ q) (h2 : q ≤ 12) : t * 10 ^ (q - p).toNat * 10 ^ (12 - q.toNat) = X := by
  rw [Int.mul_assoc, ← Int.pow_add, ← h.2.2.2, tn_split h.1 h1 h2]
theorem sc_mk {t1 p1 t2 p2 X1 X2 : Int} {n1 n2 : Nat} (h1 : DV t1 p1 n1 X1) (h2 : DV t2 p2 n2 X2) :
    Sc (t1 * 10 ^ ((if p2 > p1 then p2 else p1) - p1).toNat) (t2 * 10 ^ ((if p2 > p1 then p2 else p1) - p2).toNat) (if p2 > p1 then p2 else p1) (max n1 n2) X1 X2 := by
  have m1 := Nat.le_max_left n1 n2
  have m2 := Nat.le_max_right n1 n2
  have m3 : max n1 n2 ≤ 12 := Nat.max_le.mpr ⟨h1.2.2.1, h2.2.2.1⟩
  have a2 := h1.2.1
  have b2 := h2.2.1
  split
  · exact ⟨h2.1, Int.le_trans b2 (Int.ofNat_le.mpr m2), m3, sc_mk0 h1 (Int.le_of_lt (by assumption)) (Int.le_trans b2 (Int.ofNat_le.mpr h2.2.2.1)), sc_mk0 h2 (Int.le_refl _) (Int.le_trans b2 (Int.ofNat_le.mpr h2.2.2.1))⟩
  · exact ⟨h1.1, Int.le_trans a2 (Int.ofNat_le.mpr m1), m3, sc_mk0 h1 (Int.le_refl _) (Int.le_trans a2 (Int.ofNat_le.mpr h1.2.2.1)), sc_mk0 h2 (Int.not_lt.mp (by assumption)) (Int.le_trans a2 (Int.ofNat_le.mpr h1.2.2.1))⟩
theorem mul_pos_of {o X : Int} {k : Nat} (h : o * 10 ^ k = X) (hX : 0 < X) : 0 < o := by
  have hk := p10_pos k
  rcases Int.lt_or_le 0 o with h0 | h0
  · exact h0
  · have := Int.mul_le_mul_of_nonneg_right h0 (Int.le_of_lt hk)
    omega
theorem mul_nn_of {o X : Int} {k : Nat} (h : o * 10 ^ k = X) (hX : 0 ≤ X) : 0 ≤ o := by
  have hk := p10_pos k
  rcases Int.lt_or_le o 0 with h0 | h0
  · have := Int.mul_lt_mul_of_pos_right h0 hk
    omega
  · exact h0
theorem mul_le_of {o X : Int} {k : Nat} (h : o * 10 ^ k = X) (hX : 0 ≤ X) : o ≤ X := by
  have h0 := mul_nn_of h hX
  have hk := p10_pos k
  have := Int.mul_le_mul_of_nonneg_left (show (1 : Int) ≤ 10 ^ k by omega) h0
  omega
theorem Sc.pos1 {o1 o2 pl X1 X2 : Int} {n : Nat} (h : Sc o1 o2 pl n X1 X2) (hX : 0 < X1) : 0 < o1 := mul_pos_of h.2.2.2.1 hX
theorem Sc.pos2 {o1 o2 pl X1 X2 : Int} {n : Nat} (h : Sc o1 o2 pl n X1 X2) (hX : 0 < X2) : 0 < o2 := mul_pos_of h.2.2.2.2 hX
theorem Sc.nn1 {o1 o2 pl X1 X2 : Int} {n : Nat} (h : Sc o1 o2 pl n X1 X2) (hX : 0 ≤ X1) : 0 ≤ o1 := mul_nn_of h.2.2.2.1 hX
theorem Sc.nn2 {o1 o2 pl X1 X2 : Int} {n : Nat} (h : Sc o1 o2 pl n X1 X2) (hX : 0 ≤ X2) : 0 ≤ o2 := mul_nn_of h.2.2.2.2 hX
theorem Sc.le2 {o1 o2 pl X1 X2 : Int} {n : Nat} (h : Sc o1 o2 pl n X1 X2) (hX : 0 ≤ X2) : o2 ≤ X2 := mul_le_of h.2.2.2.2 hX
theorem DV.pos {t p X : Int} {n : Nat} (h : DV t p n X) (hX : 0 < X) : 0 < t := mul_pos_of h.2.2.2 hX
theorem DV.nn {t p X : Int} {n : Nat} (h : DV t p n X) (hX : 0 ≤ X) : 0 ≤ t := mul_nn_of h.2.2.2 hX
theorem DV.le {t p X : Int} {n : Nat} (h : DV t p n X) (hX : 0 ≤ X) : t ≤ X := mul_le_of h.2.2.2 hX
theorem DV.mono {t p X : Int} {n m : Nat} (h : DV t p n X) (hm : n ≤ m) (h12 : m ≤ 12) : DV t p m X := ⟨h.1, by have := h.2.1; omega, h12, h.2.2.2⟩
abbrev tup3 (a b c : Value) : Obj := { cls := .type "tuple", data := .seq #[a, b, c] }
abbrev tup2 (a b : Value) : Obj := { cls := .type "tuple", data := .seq #[a, b] }
abbrev tup4 (a b c d : Value) : Obj := { cls := .type "tuple", data := .seq #[a, b, c, d] }
def PSc (n : Nat) (X1 X2 : Int) (r : Value) (nn : Led) : Prop :=
  ∃ q k1 k2 k3 o1 o2 pl, r = .ref q ∧ nn = [(q, tup3 (.int o1 k1) (.int o2 k2) (.int pl k3))] ∧ Sc o1 o2 pl n X1 X2
theorem fresh1 {news : Led} {a : Addr} {o : Obj} (l1 : ∀ p ∈ news, p.1 < a) : ∀ q ∈ [(a, o)], AllLt q.1 news := by
  intro q hq
  rw [List.mem_singleton.mp hq]; exact allLt_of l1
theorem fresh1' {news : Led} {a : Addr} {o : Obj} (l1 : AllLt a news) : ∀ q ∈ [(a, o)], AllLt q.1 news := by
  intro q hq
  rw [List.mem_singleton.mp hq]; exact l1
theorem newsDrop {h₀ h : Heap} {L : Addr} {news news' : Led} (N : News h₀ L h news') (hs : ∀ p ∈ news, p ∈ news') : News h₀ L h news := fun p hp => N p (hs p hp)
theorem lt_mem {l : Led} {a : Addr} (h : ∀ p ∈ l, p.1 < a) (p : Addr × Obj) (hp : p ∈ l) : p.1 < a := h p hp
theorem drop_2of3 {q a b : Addr × Obj} {news : Led} : ∀ p ∈ [q] ++ news, p ∈ q :: a :: b :: news := by
  intro p hp
  rcases List.mem_cons.mp hp with rfl | hp
  · exact List.mem_cons_self
  · exact List.mem_cons_of_mem _ (List.mem_cons_of_mem _ (List.mem_cons_of_mem _ hp))
theorem PInt.out {X : Int} {r : Value} {nn : Led} (h : PInt X r nn) : nn = [] ∧ ∃ t, r = .int X t := h
theorem PBool.out {b : Bool} {r : Value} {nn : Led} (h : PBool b r nn) : nn = [] ∧ r = .bool b := h
theorem PSame.out {v : Value} {r : Value} {nn : Led} (h : PSame v r nn) : nn = [] ∧ r = v := h
theorem PDec.out {w : World} {n : Nat} {X : Int} {r : Value} {nn news : Led} (h : PDec w n X r nn) (l : ∀ q ∈ nn, AllLt q.1 news) :
    ∃ a dx k1 k2 k3 k4 t p, r = .ref a ∧ nn = [(a, instObj 155 dx), (dx, decD w t p k1 k2 k3 k4)] ∧ dx < a ∧ AllLt dx news ∧ DV t p n X ∧ 0 ≤ p ∧ p ≤ n ∧ n ≤ 12 := by
  obtain ⟨a, dx, k1, k2, k3, k4, t, p, rfl, rfl, h1, h2⟩ := h
  exact ⟨a, dx, k1, k2, k3, k4, t, p, rfl, rfl, h1, l _ (List.Mem.tail _ (List.Mem.head _)), h2, h2.1, h2.2.1, h2.2.2.1⟩
theorem PSc.out {n : Nat} {X1 X2 : Int} {r : Value} {nn news : Led} (h : PSc n X1 X2 r nn) (l : ∀ q ∈ nn, AllLt q.1 news) :
    ∃ q k1 k2 k3 o1 o2 pl, r = .ref q ∧ nn = [(q, tup3 (.int o1 k1) (.int o2 k2) (.int pl k3))] ∧ AllLt q news ∧ Sc o1 o2 pl n X1 X2 ∧ 0 ≤ pl ∧ pl ≤ n ∧ n ≤ 12 := by
  obtain ⟨q, k1, k2, k3, o1, o2, pl, rfl, rfl, h2⟩ := h
  exact ⟨q, k1, k2, k3, o1, o2, pl, rfl, rfl, l _ (List.Mem.head _), h2, h2.1, h2.2.1, h2.2.2.1⟩
theorem drop_1of3 {q r a : Addr × Obj} {news : Led} : ∀ p ∈ [q, r] ++ news, p ∈ q :: r :: a :: news := by
  intro p hp
  rcases List.mem_cons.mp hp with rfl | hp
  · exact List.mem_cons_self
  · rcases List.mem_cons.mp hp with rfl | hp
    · exact List.mem_cons_of_mem _ List.mem_cons_self
    · exact List.mem_cons_of_mem _ (List.mem_cons_of_mem _ (List.mem_cons_of_mem _ hp))
theorem dv_sum {o1 o2 pl X1 X2 t p : Int} {n : Nat} (h : Sc o1 o2 pl n X1 X2) (v : DV t p pl.toNat ((o1 + o2) * 10 ^ (12 - pl.toNat))) : DV t p n (X1 + X2) := by
  obtain ⟨a1, a2, a3, a4, a5⟩ := h
  have e : (o1 + o2) * 10 ^ (12 - pl.toNat) = X1 + X2 := by rw [Int.add_mul, a4, a5]
  rw [e] at v
  exact v.mono (by omega) a3
theorem dv_dif {o1 o2 pl X1 X2 t p : Int} {n : Nat} (h : Sc o1 o2 pl n X1 X2) (v : DV t p pl.toNat ((o1 - o2) * 10 ^ (12 - pl.toNat))) : DV t p n (X1 - X2) := by
  obtain ⟨a1, a2, a3, a4, a5⟩ := h
  have e : (o1 - o2) * 10 ^ (12 - pl.toNat) = X1 - X2 := by rw [Int.sub_mul, a4, a5]
  rw [e] at v
  exact v.mono (by omega) a3
theorem allLt_tl {d : Addr} {p : Addr × Obj} {l : Led} (h : AllLt d (p :: l)) : AllLt d l := h.2
theorem natAbs_le_of {o X : Int} {k : Nat} (h : o * 10 ^ k = X) : o.natAbs ≤ X.natAbs := by
  have hk := p10_pos k
  rw [← h, Int.natAbs_mul]
  exact Nat.le_mul_of_pos_right _ (by omega)
theorem mulok_nl {a b : Int} (h : a.natAbs < 18446744073709551616) : IntMulOk a b := mulok_l (by omega) (by omega)
theorem mulok_nr {a b : Int} (h : b.natAbs < 18446744073709551616) : IntMulOk a b := mulok_r (by omega) (by omega)
theorem mulok_dv {t1 p1 X1 t2 p2 X2 : Int} {n1 n2 : Nat} (v1 : DV t1 p1 n1 X1) (v2 : DV t2 p2 n2 X2) (h : X1.natAbs < 18446744073709551616 ∨ X2.natAbs < 18446744073709551616) : IntMulOk t1 t2 := by
  have h1 := natAbs_le_of v1.2.2.2
  have h2 := natAbs_le_of v2.2.2.2
  rcases h with h | h
  · exact mulok_nl (by omega)
  · exact mulok_nr (by omega)
theorem mulok_dvr {a t p X : Int} {n : Nat} (v : DV t p n X) (h1 : -18446744073709551616 < X) (h2 : X < 18446744073709551616) : IntMulOk a t := by
  have h := natAbs_le_of v.2.2.2
  exact mulok_nr (by omega)
theorem mulok_dvl {b t p X : Int} {n : Nat} (v : DV t p n X) (h1 : -18446744073709551616 < X) (h2 : X < 18446744073709551616) : IntMulOk t b := by
  have h := natAbs_le_of v.2.2.2
  exact mulok_nl (by omega)
theorem sg_mul {o X : Int} {k : Nat} (h : o * 10 ^ k = X) : sg o = sg X := by
  have hk := p10_pos k
  unfold sg
  rcases Int.lt_trichotomy o 0 with h0 | h0 | h0
  · have := Int.mul_lt_mul_of_pos_right h0 hk
    rw [if_neg (by omega), if_neg (by omega), if_neg (by omega), if_neg (by omega)]
  · subst h0
    rw [if_pos rfl, if_pos (by omega)]
  · have := Int.mul_lt_mul_of_pos_right h0 hk
    rw [if_neg (by omega), if_pos (by omega), if_neg (by omega), if_pos (by omega)]
theorem sg_sc {o1 o2 pl X1 X2 : Int} {n : Nat} (h : Sc o1 o2 pl n X1 X2) : sg (o1 - o2) = sg (X1 - X2) := by
  obtain ⟨a1, a2, a3, a4, a5⟩ := h
  exact sg_mul (k := 12 - pl.toNat) (by rw [Int.sub_mul, a4, a5])
theorem p10_ne (n : Nat) : (10 : Int) ^ n ≠ 0 := Int.ne_of_gt (p10_pos n)
theorem mul_sc {t1 p1 t2 p2 X1 X2 : Int} {n1 n2 : Nat} (v1 : DV t1 p1 n1 X1) (v2 : DV t2 p2 n2 X2) (hn : n1 + n2 ≤ 12) : X1 * X2 = t1 * t2 * 10 ^ (12 - (p1 + p2).toNat) * 10 ^ 12 := by
  obtain ⟨a1, a2, a3, a4⟩ := v1
  obtain ⟨b1, b2, b3, b4⟩ := v2
  have c1 : p1.toNat ≤ n1 := Int.toNat_le.mpr a2
  have c2 : p2.toNat ≤ n2 := Int.toNat_le.mpr b2
  have e : (12 - p1.toNat) + (12 - p2.toNat) = (12 - (p1 + p2).toNat) + 12 := by
    rw [Int.toNat_add a1 b1]
    generalize p1.toNat = u at *
    generalize p2.toNat = v at *
    clear a1 a2 a3 a4 b1 b2 b3 b4
    omega
  rw [← a4, ← b4, Int.mul_assoc (t1 * t2), ← Int.pow_add, ← e, Int.pow_add]
  simp only [Int.mul_assoc, Int.mul_left_comm, Int.mul_comm]
theorem mul_ex {t1 p1 t2 p2 X1 X2 : Int} {n1 n2 : Nat} (v1 : DV t1 p1 n1 X1) (v2 : DV t2 p2 n2 X2) (hn : n1 + n2 ≤ 12) : X1 * X2 / 10 ^ 12 = t1 * t2 * 10 ^ (12 - (p1 + p2).toNat) := by
  rw [mul_sc v1 v2 hn]
  exact Int.mul_ediv_cancel _ (p10_ne 12)
theorem mul_back {t1 p1 t2 p2 X1 X2 : Int} {n1 n2 : Nat} (v1 : DV t1 p1 n1 X1) (v2 : DV t2 p2 n2 X2) (hn : n1 + n2 ≤ 12) : X1 * X2 / 10 ^ 12 * 10 ^ 12 = X1 * X2 := by
  rw [mul_ex v1 v2 hn, mul_sc v1 v2 hn]
theorem dv_mul {t1 p1 t2 p2 X1 X2 t p : Int} {n1 n2 : Nat} (v1 : DV t1 p1 n1 X1) (v2 : DV t2 p2 n2 X2) (v : DV t p (p1 + p2).toNat (t1 * t2 * 10 ^ (12 - (p1 + p2).toNat))) (hn : n1 + n2 ≤ 12) : DV t p (n1 + n2) (X1 * X2 / 10 ^ 12) := by
  rw [mul_ex v1 v2 hn]
  have := v1.2.1
  have := v2.2.1
  exact v.mono (by omega) hn
theorem sub0 {news : Led} : ∀ p ∈ news, p ∈ news := fun _ h => h
theorem sub1 {a : Addr × Obj} {news big : Led} (h : ∀ p ∈ news, p ∈ big) : ∀ p ∈ news, p ∈ a :: big := fun p hp => List.mem_cons_of_mem _ (h p hp)
theorem drop1 {q : Addr × Obj} {news big : Led} (h : ∀ p ∈ news, p ∈ big) : ∀ p ∈ [q] ++ news, p ∈ q :: big := by
  intro p hp
  rcases List.mem_cons.mp hp with rfl | hp
  · exact List.mem_cons_self
  · exact List.mem_cons_of_mem _ (h p hp)
theorem drop2 {q r : Addr × Obj} {news big : Led} (h : ∀ p ∈ news, p ∈ big) : ∀ p ∈ [q, r] ++ news, p ∈ q :: r :: big := by
  intro p hp
  rcases List.mem_cons.mp hp with rfl | hp
  · exact List.mem_cons_self
  · exact List.mem_cons_of_mem _ (drop1 h p hp)
theorem dv_muli {t1 p1 t2 p2 X1 x t p : Int} {n1 : Nat} (v1 : DV t1 p1 n1 X1) (v2 : DV t2 p2 0 (x * 10 ^ 12)) (v : DV t p (p1 + p2).toNat (t1 * t2 * 10 ^ (12 - (p1 + p2).toNat))) : DV t p n1 (X1 * x) := by
  have h := dv_mul v1 v2 v (by have := v1.2.2.1; omega)
  rw [← Int.mul_assoc, Int.mul_ediv_cancel _ (p10_ne 12)] at h
  exact h
/-- the rounded quotient of X * 10 ^ k by Y, both not below nought -/
def rqv (X Y : Int) (k : Nat) : Int := (2 * (X * 10 ^ k) + Y) / (2 * Y)
theorem rqv_sc {o1 o2 pl X1 X2 : Int} {n : Nat} (h : Sc o1 o2 pl n X1 X2) (k : Nat) : rqv o1 o2 k = rqv X1 X2 k := by
  obtain ⟨a1, a2, a3, a4, a5⟩ := h
  unfold rqv
  have e1 : 2 * (X1 * 10 ^ k) + X2 = 10 ^ (12 - pl.toNat) * (2 * (o1 * 10 ^ k) + o2) := by
    rw [← a4, ← a5, Int.mul_add]
    congr 1
    · ac_rfl
    · rw [Int.mul_comm]
  have e2 : 2 * X2 = 10 ^ (12 - pl.toNat) * (2 * o2) := by
    rw [← a5]; ac_rfl
  rw [e1, e2, Int.mul_ediv_mul_of_pos _ _ (p10_pos _)]
theorem dv_rqv {o1 o2 pl X1 X2 t p : Int} {n k : Nat} (h : Sc o1 o2 pl n X1 X2) (_ : k ≤ 12) (v : DV t p k ((2 * (o1 * 10 ^ k) + o2) / (2 * o2) * 10 ^ (12 - k))) : DV t p k (rqv X1 X2 k * 10 ^ (12 - k)) := by
  rw [← rqv_sc h k]; exact v
theorem dv_rd {o1 o2 pl X1 X2 t p : Int} {n k : Nat} (h : Sc o1 o2 pl n X1 X2) (v : DV t p k (o1 * 10 ^ k / o2 * 10 ^ (12 - k))) : DV t p k (X1 * 10 ^ k / X2 * 10 ^ (12 - k)) := by
  obtain ⟨a1, a2, a3, a4, a5⟩ := h
  have e1 : X1 * 10 ^ k = 10 ^ (12 - pl.toNat) * (o1 * 10 ^ k) := by
    rw [← a4]; ac_rfl
  have e2 : X2 = 10 ^ (12 - pl.toNat) * o2 := by rw [← a5, Int.mul_comm]
  rw [e1, e2, Int.mul_ediv_mul_of_pos _ _ (p10_pos _)]
  exact v
def PLeast (a1 a2 : Addr) (X1 X2 : Int) (r : Value) (nn : Led) : Prop := nn = [] ∧ ((r = .ref a1 ∧ X1 ≤ X2) ∨ (r = .ref a2 ∧ X2 < X1))
theorem off_of {l : Led} {I : Addr} (h : ∀ p ∈ l, p.1 < I) : ∀ p ∈ l, p.1 ≠ I := fun p hp => Nat.ne_of_lt (h p hp)
theorem PLeast.out {a1 a2 : Addr} {X1 X2 : Int} {r : Value} {nn : Led} (h : PLeast a1 a2 X1 X2 r nn) : nn = [] ∧ ((r = .ref a1 ∧ X1 ≤ X2) ∨ (r = .ref a2 ∧ X2 < X1)) := h
theorem sg_gt {x y : Int} (h : 0 < sg (x - y)) : y < x := by
  unfold sg at h
  split at h
  · omega
  · split at h <;> omega
theorem sg_le {x y : Int} (h : ¬ 0 < sg (x - y)) : x ≤ y := by
  unfold sg at h
  split at h
  · omega
  · split at h <;> omega
theorem dv_min1 {t p A B : Int} {n k : Nat} (v : DV t p n (A * 10 ^ k)) (h : A * 10 ^ k ≤ B * 10 ^ k) : DV t p n (min A B * 10 ^ k) := by
  have : A ≤ B := Int.le_of_mul_le_mul_right h (p10_pos k)
  rw [Int.min_eq_left this]; exact v
theorem dv_min2 {t p A B : Int} {n k : Nat} (v : DV t p n (B * 10 ^ k)) (h : B * 10 ^ k < A * 10 ^ k) : DV t p n (min A B * 10 ^ k) := by
  have : B ≤ A := Int.le_of_mul_le_mul_right (Int.le_of_lt h) (p10_pos k)
  rw [Int.min_eq_right this]; exact v
structure DecP where
  a : Addr
  d : Addr
  k1 : Tok
  k2 : Tok
  k3 : Tok
  k4 : Tok
  t : Int
  p : Int
def PBox (w : World) (n : Nat) (A B C D : Int) (r : Value) (nn : Led) : Prop :=
  ∃ (q : Addr) (x y z u : DecP), r = .ref q ∧ nn = [(q, tup4 (.ref x.a) (.ref y.a) (.ref z.a) (.ref u.a)), (x.a, instObj 155 x.d), (x.d, decD w x.t x.p x.k1 x.k2 x.k3 x.k4), (y.a, instObj 155 y.d), (y.d, decD w y.t y.p y.k1 y.k2 y.k3 y.k4),
    (z.a, instObj 155 z.d), (z.d, decD w z.t z.p z.k1 z.k2 z.k3 z.k4), (u.a, instObj 155 u.d), (u.d, decD w u.t u.p u.k1 u.k2 u.k3 u.k4)] ∧ DV x.t x.p n A ∧ DV y.t y.p n B ∧ DV z.t z.p n C ∧ DV u.t u.p n D
theorem PBox.mk {w : World} {n : Nat} {A B C D : Int} {q : Addr} {a1 d1 i1 i2 i3 i4 a2 d2 j1 j2 j3 j4 a3 d3 k1 k2 k3 k4 a4 d4 l1 l2 l3 l4 : Nat} {t1 p1 t2 p2 t3 p3 t4 p4 : Int} (h1 : DV t1 p1 n A) (h2 : DV t2 p2 n B) (h3 : DV t3 p3 n C) (h4 : DV t4 p4 n D) :
    PBox w n A B C D (.ref q) [(q, tup4 (.ref a1) (.ref a2) (.ref a3) (.ref a4)), (a1, instObj 155 d1), (d1, decD w t1 p1 i1 i2 i3 i4), (a2, instObj 155 d2), (d2, decD w t2 p2 j1 j2 j3 j4),
      (a3, instObj 155 d3), (d3, decD w t3 p3 k1 k2 k3 k4), (a4, instObj 155 d4), (d4, decD w t4 p4 l1 l2 l3 l4)] :=
  ⟨q, ⟨a1, d1, i1, i2, i3, i4, t1, p1⟩, ⟨a2, d2, j1, j2, j3, j4, t2, p2⟩, ⟨a3, d3, k1, k2, k3, k4, t3, p3⟩, ⟨a4, d4, l1, l2, l3, l4, t4, p4⟩, rfl, rfl, h1, h2, h3, h4⟩
theorem div_lt_rows {t c r : Int} (hc : 0 < c) (h : t < c * r) : t / c < r := Int.ediv_lt_of_lt_mul hc (by rw [Int.mul_comm]; exact h)
abbrev matD (w : World) (a b c d e f : Value) (k1 k2 k3 k4 k5 k6 : Tok) : Obj :=
  dictOf [⟨PyData.keyHash w.params (Str.ofString "a"), .str (Str.ofString "a") k1, a⟩, ⟨PyData.keyHash w.params (Str.ofString "b"), .str (Str.ofString "b") k2, b⟩, ⟨PyData.keyHash w.params (Str.ofString "c"), .str (Str.ofString "c") k3, c⟩,
    ⟨PyData.keyHash w.params (Str.ofString "d"), .str (Str.ofString "d") k4, d⟩, ⟨PyData.keyHash w.params (Str.ofString "e"), .str (Str.ofString "e") k5, e⟩, ⟨PyData.keyHash w.params (Str.ofString "f"), .str (Str.ofString "f") k6, f⟩] 6
/-- a matrix of these decimals, the second and third of them new ones -/
def PMat0 (w : World) (s1 s2 s3 : Addr) (r : Value) (nn : Led) : Prop :=
  ∃ (M dM k1 k2 k3 k4 k5 k6 : Nat) (z u : DecP), r = .ref M ∧ nn = [(M, instObj 260 dM), (dM, matD w (.ref s1) (.ref z.a) (.ref u.a) (.ref s1) (.ref s2) (.ref s3) k1 k2 k3 k4 k5 k6),
    (z.a, instObj 155 z.d), (z.d, decD w z.t z.p z.k1 z.k2 z.k3 z.k4), (u.a, instObj 155 u.d), (u.d, decD w u.t u.p u.k1 u.k2 u.k3 u.k4)] ∧ DV z.t z.p 0 0 ∧ DV u.t u.p 0 0
theorem PMat0.mk {w : World} {s1 s2 s3 : Addr} {M dM m1 m2 m3 m4 m5 m6 a1 d1 i1 i2 i3 i4 a2 d2 j1 j2 j3 j4 : Nat} {t1 p1 t2 p2 : Int} (h1 : DV t1 p1 0 (0 * 10 ^ 12)) (h2 : DV t2 p2 0 (0 * 10 ^ 12)) :
    PMat0 w s1 s2 s3 (.ref M) [(M, instObj 260 dM), (dM, matD w (.ref s1) (.ref a1) (.ref a2) (.ref s1) (.ref s2) (.ref s3) m1 m2 m3 m4 m5 m6), (a1, instObj 155 d1), (d1, decD w t1 p1 i1 i2 i3 i4), (a2, instObj 155 d2), (d2, decD w t2 p2 j1 j2 j3 j4)] := by
  rw [Int.zero_mul] at h1 h2
  exact ⟨M, dM, m1, m2, m3, m4, m5, m6, ⟨a1, d1, i1, i2, i3, i4, t1, p1⟩, ⟨a2, d2, j1, j2, j3, j4, t2, p2⟩, rfl, rfl, h1, h2⟩
theorem PMat0.out {w : World} {s1 s2 s3 : Addr} {r : Value} {nn news : Led} (h : PMat0 w s1 s2 s3 r nn) (l : ∀ q ∈ nn, AllLt q.1 news) :
    ∃ M dM m1 m2 m3 m4 m5 m6 a1 d1 i1 j1 k1 l1 a2 d2 i2 j2 k2 l2 t1 p1 t2 p2, r = .ref M ∧ nn = [(M, instObj 260 dM), (dM, matD w (.ref s1) (.ref a1) (.ref a2) (.ref s1) (.ref s2) (.ref s3) m1 m2 m3 m4 m5 m6), (a1, instObj 155 d1), (d1, decD w t1 p1 i1 j1 k1 l1), (a2, instObj 155 d2), (d2, decD w t2 p2 i2 j2 k2 l2)] ∧
      (AllLt M news ∧ AllLt dM news ∧ AllLt a1 news ∧ AllLt d1 news ∧ AllLt a2 news ∧ AllLt d2 news) ∧ DV t1 p1 0 0 ∧ DV t2 p2 0 0 := by
  obtain ⟨M, dM, m1, m2, m3, m4, m5, m6, z, u, rfl, rfl, h1, h2⟩ := h
  simp only [List.mem_cons, forall_eq_or_imp, List.not_mem_nil, false_implies, implies_true, and_true] at l
  exact ⟨M, dM, m1, m2, m3, m4, m5, m6, z.a, z.d, z.k1, z.k2, z.k3, z.k4, u.a, u.d, u.k1, u.k2, u.k3, u.k4, z.t, z.p, u.t, u.p, rfl, rfl, l, h1, h2⟩
/-- a matrix: scale, nought, nought, scale, right, up -/
def PMat (w : World) (n nr nu : Nat) (Z R U : Int) (r : Value) (nn : Led) : Prop :=
  ∃ M dM m1 m2 m3 m4 m5 m6 a1 d1 i1 j1 k1 l1 a2 d2 i2 j2 k2 l2 a3 d3 i3 j3 k3 l3 a4 d4 i4 j4 k4 l4 a5 d5 i5 j5 k5 l5 t1 p1 t2 p2 t3 p3 t4 p4 t5 p5, r = .ref M ∧ nn = [(M, instObj 260 dM), (dM, matD w (.ref a3) (.ref a1) (.ref a2) (.ref a3) (.ref a4) (.ref a5) m1 m2 m3 m4 m5 m6), (a1, instObj 155 d1), (d1, decD w t1 p1 i1 j1 k1 l1), (a2, instObj 155 d2), (d2, decD w t2 p2 i2 j2 k2 l2), (a3, instObj 155 d3), (d3, decD w t3 p3 i3 j3 k3 l3), (a4, instObj 155 d4), (d4, decD w t4 p4 i4 j4 k4 l4), (a5, instObj 155 d5), (d5, decD w t5 p5 i5 j5 k5 l5)] ∧
    DV t1 p1 0 0 ∧ DV t2 p2 0 0 ∧ DV t3 p3 n Z ∧ DV t4 p4 nr R ∧ DV t5 p5 nu U
theorem allLt_sub {d : Addr} : ∀ {l big : Led}, AllLt d big → (∀ p ∈ l, p ∈ big) → AllLt d l
  | [], _, _, _ => trivial
  | p :: l, big, h, hs => ⟨ktn_ltOf h p (hs p List.mem_cons_self), allLt_sub h fun q hq => hs q (List.mem_cons_of_mem _ hq)⟩
theorem rq_val {x y : Int} (h0 : 0 ≤ x) (hb : 0 < y) : (2 * x + y) / (2 * y) * sg x * sg y = (2 * x + y) / (2 * y) := by
  have e1 : sg y = 1 := by unfold sg; rw [if_neg (by omega), if_pos (by omega)]
  rw [e1, Int.mul_one]
  by_cases hx : x = 0
  · subst hx
    have : (2 * 0 + y) / (2 * y) = 0 := by
      apply Int.ediv_eq_zero_of_lt <;> omega
    rw [this]; rfl
  · have e2 : sg x = 1 := by unfold sg; rw [if_neg (by omega), if_pos (by omega)]
    rw [e2, Int.mul_one]

/- a call's result handed on in one lambda, by the kind of what is known of it -/
section
variable {w : World} {hn : Option Value} {D : Nat} {f : Value} {vs : List Value} {news : Led} {Post : Value → Led → Prop}
  {dp un : Nat} {gd : Option (List Code)} {cn : Str} {cs : Scope} {a : Addr} {ccd : Value} {cl : List (Str × Addr)} {outer : List Env} {A₀ : Around} {base h₀ : Heap} {L : Addr} {m : Str → Option Value}
    {mean : ExcName → Option Value} {mg mb : Str → Option Value} {s : Shared} {Q E : Value → Shared → Prop} {x y : Int} {n : Nat}
theorem use_int (N : News h₀ L s.heap news) (C : Sp w hn D f vs news (PInt x))
    (B : Below A₀ base outer h₀) (F : Fr h₀ L s.heap m) (X : (Mine.hd0.heap_1_1 w.params).In h₀) (T : Top Mine.hd0.view_1_2 (looseW Mine.hd0.view_1_2 [Str.ofString "PaperError"]) mean mg mb h₀) (hk : cs.kind = .function) (hd : dp + D < recursionLimit) (hu : un + 8 * D < cLine)
    (ret : ∀ k h' tk', Fr h₀ L h' m → News h₀ L h' (news) → Q (.int x k) { s with heap := h', toks := tk' }) :
    wpAny (model PySem.Challenge.rw_pb0475_01.row.prog w) (ArH hn dp un gd cn cs L a ccd cl outer) (call f vs) Q E s := by
  refine sp_use B F X N T hk C hd hu (fun r nn h' tk' F' N' l z9 => ?_)
  obtain ⟨rfl, k, rfl⟩ := z9
  exact ret k h' tk' F' N'
theorem use_bool {bb : Bool} (N : News h₀ L s.heap news) (C : Sp w hn D f vs news (PBool bb))
    (B : Below A₀ base outer h₀) (F : Fr h₀ L s.heap m) (X : (Mine.hd0.heap_1_1 w.params).In h₀) (T : Top Mine.hd0.view_1_2 (looseW Mine.hd0.view_1_2 [Str.ofString "PaperError"]) mean mg mb h₀) (hk : cs.kind = .function) (hd : dp + D < recursionLimit) (hu : un + 8 * D < cLine)
    (ret : ∀ h' tk', Fr h₀ L h' m → News h₀ L h' (news) → Q (.bool bb) { s with heap := h', toks := tk' }) :
    wpAny (model PySem.Challenge.rw_pb0475_01.row.prog w) (ArH hn dp un gd cn cs L a ccd cl outer) (call f vs) Q E s := by
  refine sp_use B F X N T hk C hd hu (fun r nn h' tk' F' N' l z9 => ?_)
  obtain ⟨rfl, rfl⟩ := z9
  exact ret h' tk' F' N'
theorem use_same {v : Value} (N : News h₀ L s.heap news) (C : Sp w hn D f vs news (PSame v))
    (B : Below A₀ base outer h₀) (F : Fr h₀ L s.heap m) (X : (Mine.hd0.heap_1_1 w.params).In h₀) (T : Top Mine.hd0.view_1_2 (looseW Mine.hd0.view_1_2 [Str.ofString "PaperError"]) mean mg mb h₀) (hk : cs.kind = .function) (hd : dp + D < recursionLimit) (hu : un + 8 * D < cLine)
    (ret : ∀ h' tk', Fr h₀ L h' m → News h₀ L h' (news) → Q (v) { s with heap := h', toks := tk' }) :
    wpAny (model PySem.Challenge.rw_pb0475_01.row.prog w) (ArH hn dp un gd cn cs L a ccd cl outer) (call f vs) Q E s := by
  refine sp_use B F X N T hk C hd hu (fun r nn h' tk' F' N' l z9 => ?_)
  obtain ⟨rfl, rfl⟩ := z9
  exact ret h' tk' F' N'
theorem use_dec (N : News h₀ L s.heap news) (C : Sp w hn D f vs news (PDec w n x))
    (B : Below A₀ base outer h₀) (F : Fr h₀ L s.heap m) (X : (Mine.hd0.heap_1_1 w.params).In h₀) (T : Top Mine.hd0.view_1_2 (looseW Mine.hd0.view_1_2 [Str.ofString "PaperError"]) mean mg mb h₀) (hk : cs.kind = .function) (hd : dp + D < recursionLimit) (hu : un + 8 * D < cLine)
    (ret : ∀ b d i1 i2 i3 i4 t p h' tk', Fr h₀ L h' m → News h₀ L h' ((b, instObj 155 d) :: (d, decD w t p i1 i2 i3 i4) :: news) → @LT.lt Nat _ d b → AllLt d news → DV t p n x → 0 ≤ p → p ≤ n → n ≤ 12 → Q (.ref b) { s with heap := h', toks := tk' }) :
    wpAny (model PySem.Challenge.rw_pb0475_01.row.prog w) (ArH hn dp un gd cn cs L a ccd cl outer) (call f vs) Q E s := by
  refine sp_use B F X N T hk C hd hu (fun r nn h' tk' F' N' l z9 => ?_)
  obtain ⟨b, d, i1, i2, i3, i4, t, p, rfl, rfl, h1, h2, h3, h4, h5, h6⟩ := PDec.out z9 l
  exact ret b d i1 i2 i3 i4 t p h' tk' F' N' h1 h2 h3 h4 h5 h6
theorem use_sc (N : News h₀ L s.heap news) (C : Sp w hn D f vs news (PSc n x y))
    (B : Below A₀ base outer h₀) (F : Fr h₀ L s.heap m) (X : (Mine.hd0.heap_1_1 w.params).In h₀) (T : Top Mine.hd0.view_1_2 (looseW Mine.hd0.view_1_2 [Str.ofString "PaperError"]) mean mg mb h₀) (hk : cs.kind = .function) (hd : dp + D < recursionLimit) (hu : un + 8 * D < cLine)
    (ret : ∀ q i1 i2 i3 o1 o2 p h' tk', Fr h₀ L h' m → News h₀ L h' ((q, tup3 (.int o1 i1) (.int o2 i2) (.int p i3)) :: news) → AllLt q news → Sc o1 o2 p n x y → 0 ≤ p → p ≤ n → n ≤ 12 → Q (.ref q) { s with heap := h', toks := tk' }) :
    wpAny (model PySem.Challenge.rw_pb0475_01.row.prog w) (ArH hn dp un gd cn cs L a ccd cl outer) (call f vs) Q E s := by
  refine sp_use B F X N T hk C hd hu (fun r nn h' tk' F' N' l z9 => ?_)
  obtain ⟨q, i1, i2, i3, o1, o2, p, rfl, rfl, h1, h2, h3, h4, h5⟩ := PSc.out z9 l
  exact ret q i1 i2 i3 o1 o2 p h' tk' F' N' h1 h2 h3 h4 h5
theorem use_least {c1 c2 : Addr} (N : News h₀ L s.heap news) (C : Sp w hn D f vs news (PLeast c1 c2 x y))
    (B : Below A₀ base outer h₀) (F : Fr h₀ L s.heap m) (X : (Mine.hd0.heap_1_1 w.params).In h₀) (T : Top Mine.hd0.view_1_2 (looseW Mine.hd0.view_1_2 [Str.ofString "PaperError"]) mean mg mb h₀) (hk : cs.kind = .function) (hd : dp + D < recursionLimit) (hu : un + 8 * D < cLine)
    (ret1 : ∀ h' tk', Fr h₀ L h' m → News h₀ L h' news → x ≤ y → Q (.ref c1) { s with heap := h', toks := tk' })
    (ret2 : ∀ h' tk', Fr h₀ L h' m → News h₀ L h' news → y < x → Q (.ref c2) { s with heap := h', toks := tk' }) :
    wpAny (model PySem.Challenge.rw_pb0475_01.row.prog w) (ArH hn dp un gd cn cs L a ccd cl outer) (call f vs) Q E s := by
  refine sp_use B F X N T hk C hd hu (fun r nn h' tk' F' N' l z9 => ?_)
  obtain ⟨rfl, ⟨rfl, h1⟩ | ⟨rfl, h1⟩⟩ := z9
  · exact ret1 h' tk' F' N' h1
  · exact ret2 h' tk' F' N' h1
theorem use_mat0 {s1 s2 s3 : Addr} (N : News h₀ L s.heap news) (C : Sp w hn D f vs news (PMat0 w s1 s2 s3))
    (B : Below A₀ base outer h₀) (F : Fr h₀ L s.heap m) (X : (Mine.hd0.heap_1_1 w.params).In h₀) (T : Top Mine.hd0.view_1_2 (looseW Mine.hd0.view_1_2 [Str.ofString "PaperError"]) mean mg mb h₀) (hk : cs.kind = .function) (hd : dp + D < recursionLimit) (hu : un + 8 * D < cLine)
    (ret : ∀ M dM m1 m2 m3 m4 m5 m6 a1 d1 i1 j1 k1 l1 a2 d2 i2 j2 k2 l2 t1 p1 t2 p2 h' tk', Fr h₀ L h' m → News h₀ L h' ((M, instObj 260 dM) :: (dM, matD w (.ref s1) (.ref a1) (.ref a2) (.ref s1) (.ref s2) (.ref s3) m1 m2 m3 m4 m5 m6) :: (a1, instObj 155 d1) :: (d1, decD w t1 p1 i1 j1 k1 l1) :: (a2, instObj 155 d2) :: (d2, decD w t2 p2 i2 j2 k2 l2) :: news) → (AllLt M news ∧ AllLt dM news ∧ AllLt a1 news ∧ AllLt d1 news ∧ AllLt a2 news ∧ AllLt d2 news) → DV t1 p1 0 0 → DV t2 p2 0 0 → Q (.ref M) { s with heap := h', toks := tk' }) :
    wpAny (model PySem.Challenge.rw_pb0475_01.row.prog w) (ArH hn dp un gd cn cs L a ccd cl outer) (call f vs) Q E s := by
  refine sp_use B F X N T hk C hd hu (fun r nn h' tk' F' N' l z9 => ?_)
  obtain ⟨M, dM, m1, m2, m3, m4, m5, m6, a1, d1, i1, j1, k1, l1, a2, d2, i2, j2, k2, l2, t1, p1, t2, p2, rfl, rfl, h1, h2, h3⟩ := PMat0.out z9 l
  exact ret M dM m1 m2 m3 m4 m5 m6 a1 d1 i1 j1 k1 l1 a2 d2 i2 j2 k2 l2 t1 p1 t2 p2 h' tk' F' N' h1 h2 h3
end
theorem rm0 {d k K l : Nat} (h : d + K < l) (e : Nat.ble k K = true) : d + k < l := Nat.lt_of_le_of_lt (Nat.add_le_add_left (Nat.le_of_ble_eq_true e) d) h
theorem rm1 {d a k K l : Nat} (h : d + K < l) (e : Nat.ble (a + k) K = true) : d + a + k < l := by
  rw [Nat.add_assoc]; exact rm0 h e
theorem rm2 {d a b k K l : Nat} (h : d + K < l) (e : Nat.ble (a + b + k) K = true) : d + a + b + k < l := by
  rw [Nat.add_assoc d a b]; exact rm1 h e
theorem lt_ofMem {l : Led} {x d : Addr} {o : Obj} (h : AllLt d l) (hm : (x, o) ∈ l) : @LT.lt Nat _ x d := ktn_ltOf h _ hm
theorem lt_up {l : Led} {x d y : Addr} {o : Obj} (h2 : @LT.lt Nat _ d y) (h : AllLt d l) (hm : (x, o) ∈ l) : @LT.lt Nat _ x y := Nat.lt_trans (ktn_ltOf h _ hm) h2

set_option hygiene false in
local macro_rules | `(tactic| walk_at "eval Call") => return sq [tk "k_here", df (re (tm "Call_ ?_"))]
set_option hygiene false in
local macro_rules | `(tactic| walk_at "eval Call Attribute") => return sq [tk "k_here", df (re (tm "MethodCall_ ?_"))]
set_option hygiene false in
local macro_rules | `(tactic| walk_at "call builtin:abs") => return sq [tk "k_here", wr (re (tm "abs_nn ?h0r3 ?_")), cs "h0r3" (df (fi [tk "assumption", tk "omega"])), q `(tactic| intro _ _)]
set_option hygiene false in
local macro_rules | `(tactic| walk_at "binaryOp FloorDiv int int") => return sq [tk "k_here", wr (re (tm "fdiv_nn ?h0r4 ?h1r4 ?_")), cs "h0r4" (df (fi [tk "assumption", tk "omega"])), cs "h1r4" (df (fi [tk "assumption", tk "omega"])), tr (tk "dsimp_only")]
set_option hygiene false in
local macro_rules | `(tactic| walk_at "binaryOp Mod int int") => return sq [tk "k_here", wr (re (tm "fmod_nn ?h0r5 ?h1r5 ?_")), cs "h0r5" (df (fi [tk "assumption", tk "omega"])), cs "h1r5" (df (fi [tk "assumption", tk "omega"])), tr (tk "dsimp_only")]
set_option hygiene false in
local macro_rules | `(tactic| walk_at "binaryOp Pow int int") => return sq [tk "k_here", wr (re (tm "pow_int_small ?h0r6 ?h1r6 ?h2r6 ?_")), cs "h0r6" (df (fi [tk "assumption", tk "omega"])), cs "h1r6" (df (fi [tk "assumption", tk "omega"])), cl "h2r6 decide", tr (tk "dsimp_only")]
set_option hygiene false in
local macro_rules | `(tactic| mul_fits) => return fi [tk "assumption", ex (tm "mulok_sg"), ex (ap "mulok_p10" [byT (fi [tk "assumption", tk "omega"])]), ex (ap "mulok_r" [byT (fi [tk "assumption", tk "omega"]), byT (fi [tk "assumption", tk "omega"])]), ex (ap "mulok_l" [byT (fi [tk "assumption", tk "omega"]), byT (fi [tk "assumption", tk "omega"])]), ex (ap "mulok_dvr" [byT (tk "assumption"), byT (tk "omega"), byT (tk "omega")]), ex (ap "mulok_dvl" [byT (tk "assumption"), byT (tk "omega"), byT (tk "omega")])]
set_option hygiene false in
local macro_rules | `(tactic| k_extra "m:mem") => return fi [wr (tk "assumption"), ex (tm "List.mem_cons_self"), sq [rf (tm "List.mem_cons_of_mem _ ?_"), kx "m:mem"]]
set_option hygiene false in
local macro_rules | `(tactic| k_mem) => return kx "m:mem"
set_option hygiene false in
local macro_rules | `(tactic| k_extra "m:fact") => return fi [tk "assumption", tk "omega", tk "decide", ex (ap "Int.mul_nonneg" [byT (tk "assumption"), ap "Int.le_of_lt" [tm "p10_pos _"]]), ex (ap "Or.inr" [byT (tk "decide")])]
set_option hygiene false in
local macro_rules | `(tactic| k_extra "m:E") => return sq [cs "kA" (ex (tm "rfl")), cs "kF" (ex (tm "rfl")), cl "kK assumption k1 k_asm k2 k_asm k3 k_asm k4 k_asm k5 k_asm k6 k_is k7 k_is k8 ktr_room", cs "k9" (ex (tm "BindsTo.of_eq rfl")), cl "c5 decide", cs "kB" (ex (tm "locs rfl")), cs "c2" (ex (tm "rfl")), cs "c3" (ex (tm "rfl")), cs "c4" (ex (tm "rfl"))]
set_option hygiene false in
local macro_rules | `(tactic| k_extra "m:arg") => return fi [wr (tk "assumption"), kx "m:mem", kx "m:fact", tk "assumption"]
set_option hygiene false in
local macro_rules | `(tactic| k_extra "m:k1") => return sq [cl "zB k_asm zF k_asm zX k_asm zT k_asm", cs "zk" (fi [ex (tm "rfl"), tk "assumption"]), cl "zd ktr_room zu ktr_units"]
set_option hygiene false in
local macro_rules | `(tactic| walk_at "call ref") => return th (sq [tk "k_here", df (fi [sq [rf (tm "use_dec ?zN ?zC ?zB ?zF ?zX ?zT ?zk ?zd ?zu ?_"), cl "zN k_asm zC m:CPDec", kx "m:k1", tk "intros"], sq [rf (tm "use_int ?zN ?zC ?zB ?zF ?zX ?zT ?zk ?zd ?zu ?_"), cl "zN k_asm zC m:CPInt", kx "m:k1", tk "intros"], sq [rf (tm "use_sc ?zN ?zC ?zB ?zF ?zX ?zT ?zk ?zd ?zu ?_"), cl "zN k_asm zC m:CPSc", kx "m:k1", tk "intros", q `(tactic| rename_i v9 _ _ _), tr (hv "vp9" (ap "Sc.pos2" [tm "v9", byT (tk "omega")])), tr (hv "vl9" (ap "Sc.le2" [tm "v9", byT (tk "omega")])), tr (hv "vn9" (ap "Sc.nn1" [tm "v9", byT (tk "omega")]))], sq [rf (tm "use_same ?zN ?zC ?zB ?zF ?zX ?zT ?zk ?zd ?zu ?_"), cl "zN k_asm zC m:CPSame", kx "m:k1", tk "intros"], sq [rf (tm "use_bool ?zN ?zC ?zB ?zF ?zX ?zT ?zk ?zd ?zu ?_"), cl "zN k_asm zC m:CPBool", kx "m:k1", tk "intros"], sq [rf (tm "use_least ?zN ?zC ?zB ?zF ?zX ?zT ?zk ?zd ?zu ?r1 ?r2"), cl "zN k_asm zC m:CPLeast", kx "m:k1", q `(tactic| case' r1 => intros), q `(tactic| case' r2 => intros)], sq [rf (tm "use_mat0 ?zN ?zC ?zB ?zF ?zX ?zT ?zk ?zd ?zu ?_"), cl "zN k_asm zC m:CPMat0", kx "m:k1", tk "intros", q `(tactic| rename_i l9 _ _), q `(tactic| obtain ⟨_, _, _, _, _, _⟩ := l9)], sq [rf (tm "sp_use ?kB ?kF ?kX ?kN ?kT ?kk ?kC ?kd ?ku ?_"), cl "kB k_asm kF k_asm kX k_asm kN k_asm kC m:Cfun kT k_asm", cs "kk" (ex (tm "rfl")), cl "kd ktr_room ku ktr_units", it "r9 nn9 h9 tk9 F9 N9 l9 p9", kx "m:P", tr (soa "List.nil_append List.cons_append" "N9")]])]) (sq [tr (tk "k_sweep"), tr (tk "dsimp_only"), tr (tk "k_fold")])
set_option hygiene false in
local macro_rules | `(tactic| k_extra "m:lt") => return fi [wr (tk "assumption"), ex (ap "allLt_sub" [byT (wr (tk "assumption")), byT (kx "m:sub")]), tk "tbn_find", ex (ap "allLt_of" [byT (tk "assumption")])]
set_option hygiene false in
local macro_rules | `(tactic| news_mem) => return kx "m:mem"
set_option hygiene false in
local macro_rules | `(tactic| walk_at "exec For Name Subscript cons nil") => return sq [tk "k_here", rn "Fr _ _ _ _" "lF'", sq [wu (rf (tm "For_invVF lF' ?k1r17 ?k2r17 ?_")), cs "k1r17" (ex (tm "rfl")), cs "k2r17" (ex (tm "rfl")), tk "k_whole"]]
set_option hygiene false in
local macro_rules | `(tactic| walk_at "pyIter ref") => return sq [wr (q `(tactic| show wpAny _ _ (pyIter (Value.ref _)) (fun it s₂ => LoopAtV _ _ _ _ _ _ _ _ _ it s₂) _ _)), rn "Fr _ _ _ _" "lF'", rn "News _ _ _ _" "lN'", wu (re (ap "iter_listUnr" [byT (tk "rfl"), tm "lF'", tm "lN'", byT (kx "m:mem"), byT (tk "rfl"), byT (tk "rfl"), tm "?_"])), clr "lF'", it "i' lI'"]
set_option hygiene false in
local macro_rules | `(tactic| walk_at "UnrEnd") => return sq [rn "News _ _ _ _" "nE'", re (ap "UnrEnd.intro" [byT (tk "assumption"), tm "nE'", tm "_", byT (kx "m:sub"), ap "off_of" [byT (tk "assumption")], an [byT (kx "m:mem"), tm "?_"]])]
set_option hygiene false in
local macro_rules | `(tactic| k_extra "m:sub") => return fi [ex (tm "sub0"), sq [so "List.nil_append List.cons_append", kx "m:sub"], sq [re (ap "List.forall_mem_cons.mpr" [an [byT (kx "m:mem"), tm "?_"]]), kx "m:sub"], sq [re (tm "sub1 ?_"), kx "m:sub"]]
set_option hygiene false in
local macro_rules | `(tactic| k_extra "m:fresh") => return fi [ex (tm "fresh0"), sq [re (ap "List.forall_mem_cons.mpr" [an [byT (sq [tk "dsimp_only", fi [kx "m:lt", ex (ap "allLt_up" [byT (tk "assumption"), byT (kx "m:lt")])]]), tm "?_"]]), kx "m:fresh"]]
set_option hygiene false in
local macro_rules | `(tactic| ktr_units) => return sq [tr (so "units_under_make units_deeper units_in1 Around.mark_units"), tr (dso "ArH"), fi [ex (ap "rm1" [byT (tk "assumption"), tm "rfl"]), ex (ap "rm0" [byT (tk "assumption"), tm "rfl"]), ex (ap "rm2" [byT (tk "assumption"), tm "rfl"]), sq [hv "hcL9" (tm "cLine_is"), tk "omega"]]]
set_option hygiene false in
local macro_rules | `(tactic| ktr_room) => return sq [tr (so "depth_under_make depth_deeper depth_in1"), tr (dso "ArH"), fi [ex (ap "rm1" [byT (tk "assumption"), tm "rfl"]), ex (ap "rm0" [byT (tk "assumption"), tm "rfl"]), ex (ap "rm2" [byT (tk "assumption"), tm "rfl"]), tk "omega"]]
set_option hygiene false in
local macro_rules | `(tactic| k_extra "m:ltA") => return fi [wr (tk "assumption"), ex (ap "lt_ofMem" [byT (wr (tk "assumption")), byT (kx "m:mem")]), ex (ap "lt_up" [byT (wr (tk "assumption")), byT (wr (tk "assumption")), byT (kx "m:mem")])]
set_option hygiene false in
local macro_rules | `(tactic| k_ne) => return sq [re (tm "neN ?_"), tr (tk "dsimp_only"), fi [ex (ap "Nat.ne_of_lt" [byT (kx "m:ltA")]), ex (ap "Nat.ne_of_gt" [byT (kx "m:ltA")]), tk "omega", sq [q `(tactic| simp only [AllLt, and_true] at *), tk "omega"]]]
set_option hygiene false in
local macro_rules | `(tactic| walk_at "subscriptTail Name Constant ref int") => return sq [tk "k_here", df (fi [sq [rf (tm "item_L ?Nr26 ?mr26 ?ar26 ?br26 ?xr26 ?_ ?sr26"), cl "Nr26 k_asm mr26 m:mem ar26 decide br26 decide xr26 rfl", cs "sr26" (wu (tk "rfl"))], sq [rf (tm "item_T ?Nr26 ?mr26 ?ar26 ?br26 ?xr26 ?_ ?sr26"), cl "Nr26 k_asm mr26 m:mem ar26 decide br26 decide xr26 rfl", cs "sr26" (wu (tk "rfl"))]])]
set_option hygiene false in
local macro_rules | `(tactic| walk_at "eval ListComp") => return sq [tk "k_here", df (re (ap "ListComp_X" [byT (tk "k_asm"), byT (tk "rfl"), byT (tk "decide"), byT (tk "rfl"), byT (tk "decide"), byT (tk "rfl"), tm "?_"]))]
set_option hygiene false in
local macro_rules | `(tactic| walk_at "exec Assign cons ListComp") => return sq [tk "k_here", df (re (ap "Assign_ListComp_X" [byT (tk "k_asm"), byT (tk "rfl"), byT (wu (tk "rfl")), byT (tk "rfl"), byT (tk "decide"), byT (tk "rfl"), byT (tk "decide"), byT (tk "rfl"), byT (tk "rfl"), byT (tk "rfl"), tm "?_"]))]
set_option hygiene false in
local macro_rules | `(tactic| walk_at "SrcX") => return sq [tk "k_here", df (fi [sq [rf (tm "SrcX.tup ?hr29 ?Fr29 ?Nr29 ?mr29 ?zr29 ?_"), cs "hr29" (ex (tm "rfl")), cl "Fr29 k_asm Nr29 k_asm mr29 m:mem", cs "zr29" (fi [tk "size_fits", ex (tm "Nat.le_of_ble_eq_true rfl")])], sq [rf (tm "SrcX.lst ?hr29 ?Fr29 ?Nr29 ?mr29 ?zr29 ?_"), cs "hr29" (ex (tm "rfl")), cl "Fr29 k_asm Nr29 k_asm mr29 m:mem", cs "zr29" (fi [tk "size_fits", ex (tm "Nat.le_of_ble_eq_true rfl")])]]), it "g'", tk "lcg_lit"]
set_option hygiene false in
local macro_rules | `(tactic| walk_at "CompRest") => return wu (fi [sq [re (tm "LCg.CompRest.succ ?_"), it "v' I' oI' C' oC' D' m' h' tk' E' hv' hC' hx' F' N' off' ne'", pw "lcg_open" "hv'"], re (tm "LCg.CompRest.zero ?_")])
set_option hygiene false in
local macro_rules | `(tactic| walk_at "CompEnd") => return sq [rn "News _ _ _ _" "nE'", df (sq [rf (tm "LCg.CompEnd.intro ?Fr31 nE' _ ?subr31 ?offr31 ?Sr31 ?_"), cl "Fr31 k_asm offr31 assumption subr31 m:sub Sr31 m:mem"])]
set_option hygiene false in
local macro_rules | `(tactic| walk_at "FinE") => return sq [unf "LCg.FinE", it "D' h' tk' F' N' o1'", tr (soa "List.nil_append List.cons_append" "N'"), tr (tk "dsimp_only")]
set_option hygiene false in
local macro_rules | `(tactic| walk_at "FinA") => return sq [unf "LCg.FinA", it "D' h' tk' F' N' o1'", tr (soa "List.nil_append List.cons_append" "N'"), tr (tk "dsimp_only")]
set_option hygiene false in
local macro_rules | `(tactic| walk_at "call type:range") => return sq [tk "k_here", tr (tk "dsimp_only"), rn "Fr _ _ _ _" "lF'", rn "News _ _ _ _" "lN'", df (fi [rf (tm "range1_rows lF' lN' ?_"), rf (tm "range2_rows lF' lN' ?_"), sq [rf (tm "range3_rows lF' lN' ?hcr34 ?_ ?hpr34"), cl "hcr34 omega", cs "hpr34" (ex (ap "Or.inl" [ap "PyProof.noPylong_small" [byT (tk "omega")]]))]]), it "h9 tk9 t9 u9 v9 rg9 F9 N9 up9", clr "up9 lF' lN'", tr (dsa "rg9 F9 N9"), tr (tk "dsimp_only")]
set_option hygiene false in
local macro_rules | `(tactic| k_extra "m:decat") => return fi [wr (tk "assumption"), ex (ap "DecAt.mono" [byT (wr (tk "assumption")), byT (kx "m:sub")])]

set_option hygiene false in
local macro_rules | `(tactic| k_extra "m:CPInt") => return fi [ex (tm "sign_of"), ex (ap "rounded_quotient" [byT (kx "m:arg"), byT (kx "m:arg"), byT (kx "m:arg")]), ex (ap "dec_compared" [byT (kx "m:arg"), byT (kx "m:arg"), byT (kx "m:arg"), byT (kx "m:arg"), byT (kx "m:arg"), byT (kx "m:arg")]), ex (ap "law_large" [byT (kx "m:arg"), byT (kx "m:arg"), byT (kx "m:arg")]), ex (ap "law_edge" [byT (kx "m:arg"), byT (kx "m:arg"), byT (kx "m:arg"), byT (kx "m:arg"), byT (kx "m:arg"), byT (kx "m:arg"), byT (kx "m:arg"), byT (kx "m:arg"), byT (kx "m:arg")]), ex (ap "law_scale_t" [byT (kx "m:arg"), byT (kx "m:arg"), byT (kx "m:arg"), byT (kx "m:arg"), byT (kx "m:arg"), byT (kx "m:arg"), byT (kx "m:arg"), byT (kx "m:arg")]), ex (ap "law_scale_l" [byT (kx "m:arg"), byT (kx "m:arg"), byT (kx "m:arg"), byT (kx "m:arg"), byT (kx "m:arg"), byT (kx "m:arg"), byT (kx "m:arg"), byT (kx "m:arg")])]
set_option hygiene false in
local macro_rules | `(tactic| k_extra "m:CPDec") => return fi [ex (ap "dec_newV" [byT (kx "m:arg"), byT (kx "m:arg")]), ex (tm "decimal_of_i"), ex (ap "dec_plus" [byT (kx "m:arg"), byT (kx "m:arg"), byT (kx "m:arg"), byT (kx "m:arg"), byT (kx "m:arg"), byT (kx "m:arg")]), ex (ap "dec_minus" [byT (kx "m:arg"), byT (kx "m:arg"), byT (kx "m:arg"), byT (kx "m:arg"), byT (kx "m:arg"), byT (kx "m:arg")]), ex (ap "dec_times_d" [byT (kx "m:arg"), byT (kx "m:arg"), byT (kx "m:arg"), byT (kx "m:arg"), byT (kx "m:arg"), byT (kx "m:arg"), byT (kx "m:arg"), byT (kx "m:arg")]), ex (ap "dec_times_i" [byT (kx "m:arg"), byT (kx "m:arg"), byT (kx "m:arg"), byT (kx "m:arg"), byT (kx "m:arg")]), ex (ap "dec_over" [byT (kx "m:arg"), byT (kx "m:arg"), byT (kx "m:arg"), byT (kx "m:arg"), byT (kx "m:arg"), byT (kx "m:arg"), byT (kx "m:arg"), byT (kx "m:arg")]), ex (ap "dec_halved" [byT (kx "m:arg"), byT (kx "m:arg"), byT (kx "m:arg"), byT (kx "m:arg")]), ex (ap "dec_rdown" [byT (kx "m:arg"), byT (kx "m:arg"), byT (kx "m:arg"), byT (kx "m:arg"), byT (kx "m:arg"), byT (kx "m:arg"), byT (kx "m:arg"), byT (kx "m:arg"), byT (kx "m:arg"), byT (kx "m:arg")]), ex (ap "dec_edge" [byT (kx "m:arg"), byT (kx "m:arg"), byT (kx "m:arg"), byT (kx "m:arg"), byT (kx "m:arg"), byT (kx "m:arg"), byT (kx "m:arg"), byT (kx "m:arg"), byT (kx "m:arg"), byT (kx "m:arg")]), ex (ap "fit_t" [byT (kx "m:arg"), byT (kx "m:arg"), byT (kx "m:arg"), byT (kx "m:arg"), byT (kx "m:arg"), byT (kx "m:arg"), byT (kx "m:arg"), byT (kx "m:arg"), byT (kx "m:arg"), byT (kx "m:arg"), byT (kx "m:arg"), byT (kx "m:arg"), byT (kx "m:arg"), byT (kx "m:arg"), byT (kx "m:arg"), byT (kx "m:arg"), byT (kx "m:arg"), byT (kx "m:arg"), byT (kx "m:arg"), byT (kx "m:arg")]), ex (ap "fit_l" [byT (kx "m:arg"), byT (kx "m:arg"), byT (kx "m:arg"), byT (kx "m:arg"), byT (kx "m:arg"), byT (kx "m:arg"), byT (kx "m:arg"), byT (kx "m:arg"), byT (kx "m:arg"), byT (kx "m:arg"), byT (kx "m:arg"), byT (kx "m:arg"), byT (kx "m:arg"), byT (kx "m:arg"), byT (kx "m:arg"), byT (kx "m:arg"), byT (kx "m:arg"), byT (kx "m:arg"), byT (kx "m:arg"), byT (kx "m:arg")])]
set_option hygiene false in
local macro_rules | `(tactic| k_extra "m:CPSame") => return cx "decimal_of_d 2"
set_option hygiene false in
local macro_rules | `(tactic| k_extra "m:CPSc") => return cx "one_scale_dd 6 one_scale_di 3"
set_option hygiene false in
local macro_rules | `(tactic| k_extra "m:CPLeast") => return cx "least_c 7"
set_option hygiene false in
local macro_rules | `(tactic| k_extra "m:CPMat0") => return cx "mat_new 9"
set_option hygiene false in
local macro_rules | `(tactic| k_extra "m:Cfun") => return fi [ex (tm "mk_tf")]
section
theorem dec_new : ∀ (w : World) (hn : Option Value) (news : Led) (t p : Int) (k1 k2 : Tok) (_ : 0 ≤ p),
    Sp w hn 3 (.ref 155) [.int t k1, .int p k2] news (fun r nn => ∃ a dx k1 k2 k3 k4 T P, r = .ref a ∧ nn = [(a, instObj 155 dx), (dx, decD w T P k1 k2 k3 k4)] ∧ dx < a ∧ 0 ≤ P ∧ P ≤ p ∧ T * 10 ^ (p - P).toNat = t) := by
  intro w hn news t p k1 k2 hp
  unfold Sp; k_fill; intro dp un gd cn cs a ccd cl outer A₀ base h₀ L m mean mg mb s Q E B F X N T hk hdp hu hret
  k_dflt (refine' call_cls ?k1 ?k2 ?k3 ?k4 ?k5 ?k6 ?_; (case k1 => k_asm); (case k2 => k_asm); (case k3 => k_asm); (case k4 => k_is); (case k5 => k_is); (case k6 => k_is); k_whole; intro x' d' h' F' N' l1 l2; (try k_lt l1); (try k_lt2 l2); (try k_sweep))
  k_dflt (refine' code_def (binds := [(Str.ofString "self", .ref x'), (Str.ofString "top", .int t k1), (Str.ofString "places", .int p k2)]) ?k1 ?k2 ?k3 ?k4 ?k5 ?kA ?kF ?kK ?k6 ?k7 ?k8 ?k9 ?kB ?_ ?c2 ?c3 ?c4 ?c5; k_extra "m:E"; k_whole; intro g' L' h1' FG' F1 N1 B' X' T'; (try dsimp only); (try k_fold))
  dsimp only [List.reverse, List.reverseAux] at F1
  refine wpAny_execs_cons ?_
  refine While_inv2 (fun n m nw => nw = (x', instObj 155 d') :: (d', dictOf [] 0) :: news ∧ ∃ T P u1 u2, n = P.toNat ∧ m = (fun y => if y = Str.ofString "places" then some (.int P u1) else if y = Str.ofString "top" then some (.int T u2) else List.lookup y [(Str.ofString "places", Value.int p k2), (Str.ofString "top", .int t k1), (Str.ofString "self", .ref x')]) ∧ 0 ≤ P ∧ P ≤ p ∧ T * 10 ^ (p - P).toNat = t) F1 N1 ⟨rfl, t, p, k2, k1, rfl, m_ini rfl rfl, hp, Int.le_refl _, by simp⟩ ?_
  rintro n m₁ news₁ h₁ tk₁ F₁ N₁ ⟨rfl, T1, P1, u1, u2, rfl, rfl, hP0, hPp, hT⟩
  k_steps
  · exact ⟨_, _, _, _, (P1 - 1).toNat, rfl, by assumption, by assumption, by omega, rfl, T1 / 10, P1 - 1, _, _, rfl, m_upd, by omega, by omega, dec_turn hPp (by assumption) hT⟩
  all_goals exact hret _ [_, _] _ _ (by assumption) (by assumption) (fresh2 l1 l2) ⟨_, _, _, _, _, _, _, _, rfl, rfl, l2, hP0, hPp, hT⟩

theorem dec_newV : ∀ {w : World} {hn : Option Value} {news : Led} {t p : Int} {k1 k2 : Tok} (_ : 0 ≤ p) (_ : p ≤ 12),
    Sp w hn 3 (.ref 155) [.int t k1, .int p k2] news (PDec w p.toNat (t * 10 ^ (12 - p.toNat))) := by
  intro w hn news t p k1 k2 hp hp2
  refine sp_post (dec_new w hn news t p k1 k2 hp) ?_
  rintro r nn ⟨a, dx, k1, k2, k3, k4, T, P, rfl, rfl, h1, h2, h3, h4⟩
  exact ⟨a, dx, k1, k2, k3, k4, T, P, rfl, rfl, h1, dv_new h2 h3 hp2 h4⟩

theorem sign_of : ∀ {w : World} {hn : Option Value} {news : Led} {x : Int} {t : Tok}, Sp w hn 1 (.ref 166) [.int x t] news (PInt (sg x)) := by
  intro w hn news x t
  unfold Sp; k_fill; intro dp un gd cn cs a ccd cl outer A₀ base h₀ L m mean mg mb s Q E B F X N T hk hdp hu hret
  refine wpAny_call ?_
  k_dflt (refine' code_def (binds := [(Str.ofString "number", .int x t)]) ?k1 ?k2 ?k3 ?k4 ?k5 ?kA ?kF ?kK ?k6 ?k7 ?k8 ?k9 ?kB ?_ ?c2 ?c3 ?c4 ?c5; k_extra "m:E"; k_whole; intro g' L' h1' FG' F1 N1 B' X' T'; (try dsimp only); (try k_fold))
  dsimp only [List.reverse, List.reverseAux] at F1
  k_steps
  all_goals exact hret _ [] _ _ (by assumption) (by assumption) fresh0 ⟨rfl, _, congrArg (Value.int · _) (by unfold sg; simp [*] <;> omega)⟩

theorem rounded_quotient : ∀ {w : World} {hn : Option Value} {news : Led} {x y : Int} {t u : Tok} (_ : 0 ≤ x) (_ : 0 < y) (_ : y < 9223372036854775808), Sp w hn 2 (.ref 173) [.int x t, .int y u] news (PInt ((2 * x + y) / (2 * y))) := by
  intro w hn news x y t u h0 hb hy
  unfold Sp; k_fill; intro dp un gd cn cs a ccd cl outer A₀ base h₀ L m mean mg mb s Q E B F X N T hk hdp hu hret
  refine wpAny_call ?_
  k_dflt (refine' code_def (binds := [(Str.ofString "top", .int x t), (Str.ofString "below", .int y u)]) ?k1 ?k2 ?k3 ?k4 ?k5 ?kA ?kF ?kK ?k6 ?k7 ?k8 ?k9 ?kB ?_ ?c2 ?c3 ?c4 ?c5; k_extra "m:E"; k_whole; intro g' L' h1' FG' F1 N1 B' X' T'; (try dsimp only); (try k_fold))
  dsimp only [List.reverse, List.reverseAux] at F1
  k_steps
  all_goals exact hret _ [] _ _ (by assumption) (by assumption) fresh0 ⟨rfl, _, congrArg (Value.int · _) (rq_val h0 hb)⟩

end
section
theorem decimal_of_d : ∀ {w : World} {hn : Option Value} {news : Led} {a1 d1 i1 i2 i3 i4 : Nat} {t1 p1 : Int} (_ : (a1, instObj 155 d1) ∈ news) (_ : (d1, decD w t1 p1 i1 i2 i3 i4) ∈ news), Sp w hn 2 (.ref 180) [.ref a1] news (PSame (.ref a1)) := by
  intro w hn news a1 d1 i1 i2 i3 i4 t1 p1 m1 m2
  unfold Sp; k_fill; intro dp un gd cn cs a ccd cl outer A₀ base h₀ L m mean mg mb s Q E B F X N T hk hdp hu hret
  refine wpAny_call ?_
  k_dflt (refine' code_def (binds := [(Str.ofString "value", .ref a1)]) ?k1 ?k2 ?k3 ?k4 ?k5 ?kA ?kF ?kK ?k6 ?k7 ?k8 ?k9 ?kB ?_ ?c2 ?c3 ?c4 ?c5; k_extra "m:E"; k_whole; intro g' L' h1' FG' F1 N1 B' X' T'; (try dsimp only); (try k_fold))
  dsimp only [List.reverse, List.reverseAux] at F1
  k_steps
  all_goals exact hret _ [] _ _ (by assumption) (by assumption) fresh0 ⟨rfl, rfl⟩

theorem decimal_of_i : ∀ {w : World} {hn : Option Value} {news : Led} {x : Int} {k : Tok}, Sp w hn 5 (.ref 180) [.int x k] news (PDec w 0 (x * 10 ^ 12)) := by
  intro w hn news x k
  unfold Sp; k_fill; intro dp un gd cn cs a ccd cl outer A₀ base h₀ L m mean mg mb s Q E B F X N T hk hdp hu hret
  refine wpAny_call ?_
  k_dflt (refine' code_def (binds := [(Str.ofString "value", .int x k)]) ?k1 ?k2 ?k3 ?k4 ?k5 ?kA ?kF ?kK ?k6 ?k7 ?k8 ?k9 ?kB ?_ ?c2 ?c3 ?c4 ?c5; k_extra "m:E"; k_whole; intro g' L' h1' FG' F1 N1 B' X' T'; (try dsimp only); (try k_fold))
  dsimp only [List.reverse, List.reverseAux] at F1
  k_steps
  all_goals exact hret _ [_, _] _ _ (by assumption) (by assumption) (fresh2' (by k_extra "m:lt") (by assumption)) ⟨_, _, _, _, _, _, _, _, rfl, rfl, by assumption, by assumption⟩

theorem one_scale_dd : ∀ {w : World} {news : Led} {a1 d1 i1 i2 i3 i4 : Nat} {t1 p1 X1 : Int} {n1 : Nat} (_ : (a1, instObj 155 d1) ∈ news) (_ : (d1, decD w t1 p1 i1 i2 i3 i4) ∈ news) (_ : DV t1 p1 n1 X1)
    {a2 d2 j1 j2 j3 j4 : Nat} {t2 p2 X2 : Int} {n2 : Nat} (_ : (a2, instObj 155 d2) ∈ news) (_ : (d2, decD w t2 p2 j1 j2 j3 j4) ∈ news) (_ : DV t2 p2 n2 X2),
    Sp w none 5 (.ref 187) [.ref a1, .ref a2] news (PSc (max n1 n2) X1 X2) := by
  intro w news a1 d1 i1 i2 i3 i4 t1 p1 X1 n1 m1 m2 v1 a2 d2 j1 j2 j3 j4 t2 p2 X2 n2 m3 m4 v2
  have q1 := v1.1
  have q2 := v2.1
  have q3 := v1.2.1
  have q4 := v2.2.1
  have q5 := v1.2.2.1
  have q6 := v2.2.2.1
  unfold Sp; k_fill; intro dp un gd cn cs a ccd cl outer A₀ base h₀ L m mean mg mb s Q E B F X N T hk hdp hu hret
  refine wpAny_call ?_
  k_dflt (refine' code_def (binds := [(Str.ofString "one", .ref a1), (Str.ofString "other", .ref a2)]) ?k1 ?k2 ?k3 ?k4 ?k5 ?kA ?kF ?kK ?k6 ?k7 ?k8 ?k9 ?kB ?_ ?c2 ?c3 ?c4 ?c5; k_extra "m:E"; k_whole; intro g' L' h1' FG' F1 N1 B' X' T'; (try dsimp only); (try k_fold))
  dsimp only [List.reverse, List.reverseAux] at F1
  k_steps
  all_goals exact hret _ [_] _ _ (by assumption) (by assumption) (fresh1' (by k_extra "m:lt")) ⟨_, _, _, _, _, _, _, rfl, rfl, sc_mk v1 v2⟩

theorem one_scale_di : ∀ {w : World} {news : Led} {a1 d1 i1 i2 i3 i4 : Nat} {t1 p1 X1 : Int} {n1 : Nat} (_ : (a1, instObj 155 d1) ∈ news) (_ : (d1, decD w t1 p1 i1 i2 i3 i4) ∈ news) (_ : DV t1 p1 n1 X1)
    {x : Int} {k : Tok},
    Sp w none 8 (.ref 187) [.ref a1, .int x k] news (PSc (max n1 0) X1 (x * 10 ^ 12)) := by
  intro w news a1 d1 i1 i2 i3 i4 t1 p1 X1 n1 m1 m2 v1 x k
  have q1 := v1.1
  have q3 := v1.2.1
  have q5 := v1.2.2.1
  unfold Sp; k_fill; intro dp un gd cn cs a ccd cl outer A₀ base h₀ L m mean mg mb s Q E B F X N T hk hdp hu hret
  refine wpAny_call ?_
  k_dflt (refine' code_def (binds := [(Str.ofString "one", .ref a1), (Str.ofString "other", .int x k)]) ?k1 ?k2 ?k3 ?k4 ?k5 ?kA ?kF ?kK ?k6 ?k7 ?k8 ?k9 ?kB ?_ ?c2 ?c3 ?c4 ?c5; k_extra "m:E"; k_whole; intro g' L' h1' FG' F1 N1 B' X' T'; (try dsimp only); (try k_fold))
  dsimp only [List.reverse, List.reverseAux] at F1
  k_steps
  all_goals exact hret _ [_] _ _ (by assumption) (newsDrop (by assumption) drop_2of3) (fresh1' (by k_extra "m:lt")) ⟨_, _, _, _, _, _, _, rfl, rfl, sc_mk v1 (by assumption)⟩

end
section
theorem dec_plus : ∀ {w : World} {news : Led} {a1 d1 i1 i2 i3 i4 : Nat} {t1 p1 X1 : Int} {n1 : Nat} (_ : (a1, instObj 155 d1) ∈ news) (_ : (d1, decD w t1 p1 i1 i2 i3 i4) ∈ news) (_ : DV t1 p1 n1 X1)
    {a2 d2 j1 j2 j3 j4 : Nat} {t2 p2 X2 : Int} {n2 : Nat} (_ : (a2, instObj 155 d2) ∈ news) (_ : (d2, decD w t2 p2 j1 j2 j3 j4) ∈ news) (_ : DV t2 p2 n2 X2),
    Sp w none 7 (.ref 82) [.ref a1, .ref a2] news (PDec w (max n1 n2) (X1 + X2)) := by
  intro w news a1 d1 i1 i2 i3 i4 t1 p1 X1 n1 m1 m2 v1 a2 d2 j1 j2 j3 j4 t2 p2 X2 n2 m3 m4 v2
  unfold Sp; k_fill; intro dp un gd cn cs a ccd cl outer A₀ base h₀ L m mean mg mb s Q E B F X N T hk hdp hu hret
  refine wpAny_call ?_
  k_dflt (refine' code_def (binds := [(Str.ofString "self", .ref a1), (Str.ofString "other", .ref a2)]) ?k1 ?k2 ?k3 ?k4 ?k5 ?kA ?kF ?kK ?k6 ?k7 ?k8 ?k9 ?kB ?_ ?c2 ?c3 ?c4 ?c5; k_extra "m:E"; k_whole; intro g' L' h1' FG' F1 N1 B' X' T'; (try dsimp only); (try k_fold))
  dsimp only [List.reverse, List.reverseAux] at F1
  k_steps
  all_goals exact hret _ [_, _] _ _ (by assumption) (newsDrop (by assumption) drop_1of3) (fresh2' (by k_extra "m:lt") (by assumption)) ⟨_, _, _, _, _, _, _, _, rfl, rfl, by assumption, dv_sum (by assumption) (by assumption)⟩

theorem dec_minus : ∀ {w : World} {news : Led} {a1 d1 i1 i2 i3 i4 : Nat} {t1 p1 X1 : Int} {n1 : Nat} (_ : (a1, instObj 155 d1) ∈ news) (_ : (d1, decD w t1 p1 i1 i2 i3 i4) ∈ news) (_ : DV t1 p1 n1 X1)
    {a2 d2 j1 j2 j3 j4 : Nat} {t2 p2 X2 : Int} {n2 : Nat} (_ : (a2, instObj 155 d2) ∈ news) (_ : (d2, decD w t2 p2 j1 j2 j3 j4) ∈ news) (_ : DV t2 p2 n2 X2),
    Sp w none 7 (.ref 89) [.ref a1, .ref a2] news (PDec w (max n1 n2) (X1 - X2)) := by
  intro w news a1 d1 i1 i2 i3 i4 t1 p1 X1 n1 m1 m2 v1 a2 d2 j1 j2 j3 j4 t2 p2 X2 n2 m3 m4 v2
  unfold Sp; k_fill; intro dp un gd cn cs a ccd cl outer A₀ base h₀ L m mean mg mb s Q E B F X N T hk hdp hu hret
  refine wpAny_call ?_
  k_dflt (refine' code_def (binds := [(Str.ofString "self", .ref a1), (Str.ofString "other", .ref a2)]) ?k1 ?k2 ?k3 ?k4 ?k5 ?kA ?kF ?kK ?k6 ?k7 ?k8 ?k9 ?kB ?_ ?c2 ?c3 ?c4 ?c5; k_extra "m:E"; k_whole; intro g' L' h1' FG' F1 N1 B' X' T'; (try dsimp only); (try k_fold))
  dsimp only [List.reverse, List.reverseAux] at F1
  k_steps
  all_goals exact hret _ [_, _] _ _ (by assumption) (newsDrop (by assumption) drop_1of3) (fresh2' (by k_extra "m:lt") (by assumption)) ⟨_, _, _, _, _, _, _, _, rfl, rfl, by assumption, dv_dif (by assumption) (by assumption)⟩

theorem dec_compared : ∀ {w : World} {news : Led} {a1 d1 i1 i2 i3 i4 : Nat} {t1 p1 X1 : Int} {n1 : Nat} (_ : (a1, instObj 155 d1) ∈ news) (_ : (d1, decD w t1 p1 i1 i2 i3 i4) ∈ news) (_ : DV t1 p1 n1 X1)
    {a2 d2 j1 j2 j3 j4 : Nat} {t2 p2 X2 : Int} {n2 : Nat} (_ : (a2, instObj 155 d2) ∈ news) (_ : (d2, decD w t2 p2 j1 j2 j3 j4) ∈ news) (_ : DV t2 p2 n2 X2),
    Sp w none 7 (.ref 110) [.ref a1, .ref a2] news (PInt (sg (X1 - X2))) := by
  intro w news a1 d1 i1 i2 i3 i4 t1 p1 X1 n1 m1 m2 v1 a2 d2 j1 j2 j3 j4 t2 p2 X2 n2 m3 m4 v2
  unfold Sp; k_fill; intro dp un gd cn cs a ccd cl outer A₀ base h₀ L m mean mg mb s Q E B F X N T hk hdp hu hret
  refine wpAny_call ?_
  k_dflt (refine' code_def (binds := [(Str.ofString "self", .ref a1), (Str.ofString "other", .ref a2)]) ?k1 ?k2 ?k3 ?k4 ?k5 ?kA ?kF ?kK ?k6 ?k7 ?k8 ?k9 ?kB ?_ ?c2 ?c3 ?c4 ?c5; k_extra "m:E"; k_whole; intro g' L' h1' FG' F1 N1 B' X' T'; (try dsimp only); (try k_fold))
  dsimp only [List.reverse, List.reverseAux] at F1
  k_steps
  all_goals exact hret _ [] _ _ (by assumption) (newsDrop (by assumption) (fun _ h => List.mem_cons_of_mem _ h)) fresh0 ⟨rfl, _, congrArg (Value.int · _) (sg_sc (by assumption))⟩

theorem dec_times_d : ∀ {w : World} {news : Led} {a1 d1 i1 i2 i3 i4 : Nat} {t1 p1 X1 : Int} {n1 : Nat} (_ : (a1, instObj 155 d1) ∈ news) (_ : (d1, decD w t1 p1 i1 i2 i3 i4) ∈ news) (_ : DV t1 p1 n1 X1)
    {a2 d2 j1 j2 j3 j4 : Nat} {t2 p2 X2 : Int} {n2 : Nat} (_ : (a2, instObj 155 d2) ∈ news) (_ : (d2, decD w t2 p2 j1 j2 j3 j4) ∈ news) (_ : DV t2 p2 n2 X2) (_ : n1 + n2 ≤ 12) (_ : X1.natAbs < 18446744073709551616 ∨ X2.natAbs < 18446744073709551616),
    Sp w none 7 (.ref 96) [.ref a1, .ref a2] news (PDec w (n1 + n2) (X1 * X2 / 10 ^ 12)) := by
  intro w news a1 d1 i1 i2 i3 i4 t1 p1 X1 n1 m1 m2 v1 a2 d2 j1 j2 j3 j4 t2 p2 X2 n2 m3 m4 v2 hn hb
  have q1 := v1.1
  have q2 := v2.1
  have q3 := v1.2.1
  have q4 := v2.2.1
  have q5 := v1.2.2.1
  have q6 := v2.2.2.1
  have hm : IntMulOk t1 t2 := mulok_dv v1 v2 hb
  unfold Sp; k_fill; intro dp un gd cn cs a ccd cl outer A₀ base h₀ L m mean mg mb s Q E B F X N T hk hdp hu hret
  refine wpAny_call ?_
  k_dflt (refine' code_def (binds := [(Str.ofString "self", .ref a1), (Str.ofString "other", .ref a2)]) ?k1 ?k2 ?k3 ?k4 ?k5 ?kA ?kF ?kK ?k6 ?k7 ?k8 ?k9 ?kB ?_ ?c2 ?c3 ?c4 ?c5; k_extra "m:E"; k_whole; intro g' L' h1' FG' F1 N1 B' X' T'; (try dsimp only); (try k_fold))
  dsimp only [List.reverse, List.reverseAux] at F1
  k_steps
  all_goals exact hret _ [_, _] _ _ (by assumption) (by assumption) (fresh2' (by k_extra "m:lt") (by assumption)) ⟨_, _, _, _, _, _, _, _, rfl, rfl, by assumption, dv_mul v1 v2 (by assumption) hn⟩

theorem dec_times_i : ∀ {w : World} {news : Led} {a1 d1 i1 i2 i3 i4 : Nat} {t1 p1 X1 : Int} {n1 : Nat} (_ : (a1, instObj 155 d1) ∈ news) (_ : (d1, decD w t1 p1 i1 i2 i3 i4) ∈ news) (_ : DV t1 p1 n1 X1)
    {x : Int} {k : Tok} (_ : 0 ≤ x) (_ : x < 1000),
    Sp w none 8 (.ref 96) [.ref a1, .int x k] news (PDec w n1 (X1 * x)) := by
  intro w news a1 d1 i1 i2 i3 i4 t1 p1 X1 n1 m1 m2 v1 x k hx hx2
  have q1 := v1.1
  have q3 := v1.2.1
  have q5 := v1.2.2.1
  unfold Sp; k_fill; intro dp un gd cn cs a ccd cl outer A₀ base h₀ L m mean mg mb s Q E B F X N T hk hdp hu hret
  refine wpAny_call ?_
  k_dflt (refine' code_def (binds := [(Str.ofString "self", .ref a1), (Str.ofString "other", .int x k)]) ?k1 ?k2 ?k3 ?k4 ?k5 ?kA ?kF ?kK ?k6 ?k7 ?k8 ?k9 ?kB ?_ ?c2 ?c3 ?c4 ?c5; k_extra "m:E"; k_whole; intro g' L' h1' FG' F1 N1 B' X' T'; (try dsimp only); (try k_fold))
  dsimp only [List.reverse, List.reverseAux] at F1
  k_steps
  all_goals exact hret _ [_, _] _ _ (by assumption) (newsDrop (by assumption) (drop2 (sub1 (sub1 sub0)))) (fresh2' (by k_extra "m:lt") (by assumption)) ⟨_, _, _, _, _, _, _, _, rfl, rfl, by assumption, dv_muli v1 (by assumption) (by assumption)⟩


end
section
theorem dec_over : ∀ {w : World} {news : Led} {a1 d1 i1 i2 i3 i4 : Nat} {t1 p1 X1 : Int} {n1 : Nat} (_ : (a1, instObj 155 d1) ∈ news) (_ : (d1, decD w t1 p1 i1 i2 i3 i4) ∈ news) (_ : DV t1 p1 n1 X1) {x pl : Int} {k k2 : Tok} (_ : 0 ≤ X1) (_ : 0 < x) (_ : x < 1000) (_ : 0 ≤ pl) (_ : pl ≤ 12),
    Sp w none 12 (.ref 194) [.ref a1, .int x k, .int pl k2] news (PDec w pl.toNat (rqv X1 (x * 10 ^ 12) pl.toNat * 10 ^ (12 - pl.toNat))) := by
  intro w news a1 d1 i1 i2 i3 i4 t1 p1 X1 n1 m1 m2 v1 x pl k k2 hX hx hx2 hp hp2
  have q1 := v1.1
  have q3 := v1.2.1
  have q5 := v1.2.2.1
  unfold Sp; k_fill; intro dp un gd cn cs a ccd cl outer A₀ base h₀ L m mean mg mb s Q E B F X N T hk hdp hu hret
  refine wpAny_call ?_
  k_dflt (refine' code_def (binds := [(Str.ofString "one", .ref a1), (Str.ofString "other", .int x k), (Str.ofString "places", .int pl k2)]) ?k1 ?k2 ?k3 ?k4 ?k5 ?kA ?kF ?kK ?k6 ?k7 ?k8 ?k9 ?kB ?_ ?c2 ?c3 ?c4 ?c5; k_extra "m:E"; k_whole; intro g' L' h1' FG' F1 N1 B' X' T'; (try dsimp only); (try k_fold))
  dsimp only [List.reverse, List.reverseAux] at F1
  k_steps
  all_goals first | (exfalso; omega) | exact hret _ [_, _] _ _ (by assumption) (newsDrop (by assumption) (drop2 (sub1 sub0))) (fresh2' (by k_extra "m:lt") (by assumption)) ⟨_, _, _, _, _, _, _, _, rfl, rfl, by assumption, dv_rqv (by assumption) (by omega) (by assumption)⟩

theorem dec_halved : ∀ {w : World} {news : Led} {a1 d1 i1 i2 i3 i4 : Nat} {t1 p1 X1 : Int} {n1 : Nat} (_ : (a1, instObj 155 d1) ∈ news) (_ : (d1, decD w t1 p1 i1 i2 i3 i4) ∈ news) (_ : DV t1 p1 n1 X1) (_ : n1 + 1 ≤ 12),
    Sp w none 12 (.ref 201) [.ref a1] news (PDec w (n1 + 1) (X1 * (5 * 10 ^ 11) / 10 ^ 12)) := by
  intro w news a1 d1 i1 i2 i3 i4 t1 p1 X1 n1 m1 m2 v1 hn
  have q1 := v1.1
  have q3 := v1.2.1
  have q5 := v1.2.2.1
  unfold Sp; k_fill; intro dp un gd cn cs a ccd cl outer A₀ base h₀ L m mean mg mb s Q E B F X N T hk hdp hu hret
  refine wpAny_call ?_
  k_dflt (refine' code_def (binds := [(Str.ofString "value", .ref a1)]) ?k1 ?k2 ?k3 ?k4 ?k5 ?kA ?kF ?kK ?k6 ?k7 ?k8 ?k9 ?kB ?_ ?c2 ?c3 ?c4 ?c5; k_extra "m:E"; k_whole; intro g' L' h1' FG' F1 N1 B' X' T'; (try dsimp only); (try k_fold))
  dsimp only [List.reverse, List.reverseAux] at F1
  k_steps
  all_goals first | (exfalso; omega) | exact hret _ [_, _] _ _ (by assumption) (newsDrop (by assumption) (drop2 (sub1 (sub1 sub0)))) (fresh2' (by k_extra "m:lt") (by assumption)) ⟨_, _, _, _, _, _, _, _, rfl, rfl, by assumption, by assumption⟩

theorem dec_rdown : ∀ {w : World} {news : Led} {a1 d1 i1 i2 i3 i4 : Nat} {t1 p1 X1 : Int} {n1 : Nat} (_ : (a1, instObj 155 d1) ∈ news) (_ : (d1, decD w t1 p1 i1 i2 i3 i4) ∈ news) (_ : DV t1 p1 n1 X1)
    {a2 d2 j1 j2 j3 j4 : Nat} {t2 p2 X2 : Int} {n2 : Nat} (_ : (a2, instObj 155 d2) ∈ news) (_ : (d2, decD w t2 p2 j1 j2 j3 j4) ∈ news) (_ : DV t2 p2 n2 X2) {pl : Int} {k2 : Tok} (_ : 0 < X2) (_ : X2 < 9223372036854775808) (_ : 0 ≤ pl) (_ : pl ≤ 12),
    Sp w none 12 (.ref 271) [.ref a1, .ref a2, .int pl k2] news (PDec w pl.toNat (X1 * 10 ^ pl.toNat / X2 * 10 ^ (12 - pl.toNat))) := by
  intro w news a1 d1 i1 i2 i3 i4 t1 p1 X1 n1 m1 m2 v1 a2 d2 j1 j2 j3 j4 t2 p2 X2 n2 m3 m4 v2 pl k2 hX hX2 hp hp2
  have q1 := v1.1
  have q3 := v1.2.1
  have q5 := v1.2.2.1
  unfold Sp; k_fill; intro dp un gd cn cs a ccd cl outer A₀ base h₀ L m mean mg mb s Q E B F X N T hk hdp hu hret
  refine wpAny_call ?_
  k_dflt (refine' code_def (binds := [(Str.ofString "top", .ref a1), (Str.ofString "below", .ref a2), (Str.ofString "places", .int pl k2)]) ?k1 ?k2 ?k3 ?k4 ?k5 ?kA ?kF ?kK ?k6 ?k7 ?k8 ?k9 ?kB ?_ ?c2 ?c3 ?c4 ?c5; k_extra "m:E"; k_whole; intro g' L' h1' FG' F1 N1 B' X' T'; (try dsimp only); (try k_fold))
  dsimp only [List.reverse, List.reverseAux] at F1
  k_steps
  all_goals first | (exfalso; omega) | exact hret _ [_, _] _ _ (by assumption) (newsDrop (by assumption) (drop2 (sub1 sub0))) (fresh2' (by k_extra "m:lt") (by assumption)) ⟨_, _, _, _, _, _, _, _, rfl, rfl, by assumption, dv_rd (by assumption) (by assumption)⟩

theorem dec_edge : ∀ {w : World} {news : Led} {a1 d1 i1 i2 i3 i4 : Nat} {t1 p1 X1 : Int} {n1 : Nat} (_ : (a1, instObj 155 d1) ∈ news) (_ : (d1, decD w t1 p1 i1 i2 i3 i4) ∈ news) (_ : DV t1 p1 n1 X1) {part parts pl : Int} {k k2 k3 : Tok} (_ : 0 ≤ X1) (_ : 0 ≤ part) (_ : part < 1000) (_ : 0 < parts) (_ : parts < 1000) (_ : 0 ≤ pl) (_ : pl ≤ 12),
    Sp w none 16 (.ref 285) [.ref a1, .int part k, .int parts k2, .int pl k3] news (PDec w pl.toNat (rqv (X1 * part) (parts * 10 ^ 12) pl.toNat * 10 ^ (12 - pl.toNat))) := by
  intro w news a1 d1 i1 i2 i3 i4 t1 p1 X1 n1 m1 m2 v1 part parts pl k k2 k3 hX h1 h2 h3 h4 h5 h6
  have q1 := v1.1
  have q3 := v1.2.1
  have q5 := v1.2.2.1
  have hXp : 0 ≤ X1 * part := Int.mul_nonneg hX h1
  unfold Sp; k_fill; intro dp un gd cn cs a ccd cl outer A₀ base h₀ L m mean mg mb s Q E B F X N T hk hdp hu hret
  refine wpAny_call ?_
  k_dflt (refine' code_def (binds := [(Str.ofString "length", .ref a1), (Str.ofString "part", .int part k), (Str.ofString "parts", .int parts k2), (Str.ofString "places", .int pl k3)]) ?k1 ?k2 ?k3 ?k4 ?k5 ?kA ?kF ?kK ?k6 ?k7 ?k8 ?k9 ?kB ?_ ?c2 ?c3 ?c4 ?c5; k_extra "m:E"; k_whole; intro g' L' h1' FG' F1 N1 B' X' T'; (try dsimp only); (try k_fold))
  dsimp only [List.reverse, List.reverseAux] at F1
  k_steps
  all_goals first | (exfalso; omega) | exact hret _ [_, _] _ _ (by assumption) (newsDrop (by assumption) (drop2 (sub1 (sub1 sub0)))) (fresh2' (by k_extra "m:lt") (by assumption)) ⟨_, _, _, _, _, _, _, _, rfl, rfl, by assumption, by assumption⟩

end
section
theorem least_c : ∀ {w : World} {news : Led} {a1 d1 i1 i2 i3 i4 : Nat} {t1 p1 X1 : Int} {n1 : Nat} {a2 d2 j1 j2 j3 j4 : Nat} {t2 p2 X2 : Int} {n2 l n : Nat}
    (_ : (l, listOf [Value.ref a1, Value.ref a2].toArray n) ∈ news)
    (_ : (a1, instObj 155 d1) ∈ news) (_ : (d1, decD w t1 p1 i1 i2 i3 i4) ∈ news) (_ : DV t1 p1 n1 X1)
    (_ : (a2, instObj 155 d2) ∈ news) (_ : (d2, decD w t2 p2 j1 j2 j3 j4) ∈ news) (_ : DV t2 p2 n2 X2),
    Sp w none 12 (.ref 208) [.ref l] news (PLeast a1 a2 X1 X2) := by
  intro w news a1 d1 i1 i2 i3 i4 t1 p1 X1 n1 a2 d2 j1 j2 j3 j4 t2 p2 X2 n2 l n ml m1 m2 v1 m3 m4 v2
  unfold Sp; k_fill; intro dp un gd cn cs a ccd cl outer A₀ base h₀ L m mean mg mb s Q E B F X N T hk hdp hu hret
  refine wpAny_call ?_
  k_dflt (refine' code_def (binds := [(Str.ofString "values", .ref l)]) ?k1 ?k2 ?k3 ?k4 ?k5 ?kA ?kF ?kK ?k6 ?k7 ?k8 ?k9 ?kB ?_ ?c2 ?c3 ?c4 ?c5; k_extra "m:E"; k_whole; intro g' L' h1' FG' F1 N1 B' X' T'; (try dsimp only); (try k_fold))
  dsimp only [List.reverse, List.reverseAux] at F1
  k_steps
  all_goals first
    | exact hret _ [] _ _ (by assumption) (newsDrop (by assumption) (by k_extra "m:sub")) fresh0 ⟨rfl, Or.inl ⟨rfl, sg_le (by assumption)⟩⟩
    | exact hret _ [] _ _ (by assumption) (newsDrop (by assumption) (by k_extra "m:sub")) fresh0 ⟨rfl, Or.inr ⟨rfl, sg_gt (by assumption)⟩⟩

theorem fit_t : ∀ {w : World} {news : Led} {s1 e1 : Nat} {x11 x12 x13 x14 : Nat} {t1 p1 S1 : Int} {n1 : Nat} {s2 e2 : Nat} {x21 x22 x23 x24 : Nat} {t2 p2 S2 : Int} {n2 : Nat} {s3 e3 : Nat} {x31 x32 x33 x34 : Nat} {t3 p3 R1 : Int} {n3 : Nat} {s4 e4 : Nat} {x41 x42 x43 x44 : Nat} {t4 p4 R2 : Int} {n4 : Nat} {ls n lr : Nat} {pl : Int} {k2 : Tok}
    (_ : (ls, listOf [Value.ref s1, Value.ref s2].toArray n) ∈ news) (_ : (s1, instObj 155 e1) ∈ news) (_ : (e1, decD w t1 p1 x11 x12 x13 x14) ∈ news) (_ : DV t1 p1 n1 S1) (_ : (s2, instObj 155 e2) ∈ news) (_ : (e2, decD w t2 p2 x21 x22 x23 x24) ∈ news) (_ : DV t2 p2 n2 S2)
    (_ : (lr, tup2 (.ref s3) (.ref s4)) ∈ news) (_ : (s3, instObj 155 e3) ∈ news) (_ : (e3, decD w t3 p3 x31 x32 x33 x34) ∈ news) (_ : DV t3 p3 n3 R1) (_ : (s4, instObj 155 e4) ∈ news) (_ : (e4, decD w t4 p4 x41 x42 x43 x44) ∈ news) (_ : DV t4 p4 n4 R2) (_ : 0 < S1) (_ : S1 < 9223372036854775808) (_ : 0 < S2) (_ : S2 < 9223372036854775808) (_ : 0 ≤ pl) (_ : pl ≤ 12),
    Sp w none 20 (.ref 278) [.ref ls, .ref lr, .int pl k2] news (PDec w pl.toNat (min (R1 * 10 ^ pl.toNat / S1) (R2 * 10 ^ pl.toNat / S2) * 10 ^ (12 - pl.toNat))) := by
  intro w news s1 e1 x11 x12 x13 x14 t1 p1 S1 n1 s2 e2 x21 x22 x23 x24 t2 p2 S2 n2 s3 e3 x31 x32 x33 x34 t3 p3 R1 n3 s4 e4 x41 x42 x43 x44 t4 p4 R2 n4 ls n lr pl k2 ml m1 m2 v1 m3 m4 v2 mr m5 m6 v3 m7 m8 v4 hS1 hS1' hS2 hS2' hp hp2
  have ht1 := v1.pos hS1
  have ht2 := v2.pos hS2
  unfold Sp; k_fill; intro dp un gd cn cs a ccd cl outer A₀ base h₀ L m mean mg mb s Q E B F X N T hk hdp hu hret
  refine wpAny_call ?_
  k_dflt (refine' code_def (binds := [(Str.ofString "size", .ref ls), (Str.ofString "room", .ref lr), (Str.ofString "places", .int pl k2)]) ?k1 ?k2 ?k3 ?k4 ?k5 ?kA ?kF ?kK ?k6 ?k7 ?k8 ?k9 ?kB ?_ ?c2 ?c3 ?c4 ?c5; k_extra "m:E"; k_whole; intro g' L' h1' FG' F1 N1 B' X' T'; (try dsimp only); (try k_fold))
  dsimp only [List.reverse, List.reverseAux] at F1
  k_steps
  all_goals first
    | exact hret _ [_, _] _ _ (by assumption) (newsDrop (by assumption) (by k_extra "m:sub")) (fresh2' (by k_extra "m:lt") (by assumption)) ⟨_, _, _, _, _, _, _, _, rfl, rfl, by assumption, dv_min1 (by assumption) (by assumption)⟩
    | exact hret _ [_, _] _ _ (by assumption) (newsDrop (by assumption) (by k_extra "m:sub")) (fresh2' (by k_extra "m:lt") (by assumption)) ⟨_, _, _, _, _, _, _, _, rfl, rfl, by assumption, dv_min2 (by assumption) (by assumption)⟩

theorem fit_l : ∀ {w : World} {news : Led} {s1 e1 : Nat} {x11 x12 x13 x14 : Nat} {t1 p1 S1 : Int} {n1 : Nat} {s2 e2 : Nat} {x21 x22 x23 x24 : Nat} {t2 p2 S2 : Int} {n2 : Nat} {s3 e3 : Nat} {x31 x32 x33 x34 : Nat} {t3 p3 R1 : Int} {n3 : Nat} {s4 e4 : Nat} {x41 x42 x43 x44 : Nat} {t4 p4 R2 : Int} {n4 : Nat} {ls n lr n' : Nat} {pl : Int} {k2 : Tok}
    (_ : (ls, listOf [Value.ref s1, Value.ref s2].toArray n) ∈ news) (_ : (s1, instObj 155 e1) ∈ news) (_ : (e1, decD w t1 p1 x11 x12 x13 x14) ∈ news) (_ : DV t1 p1 n1 S1) (_ : (s2, instObj 155 e2) ∈ news) (_ : (e2, decD w t2 p2 x21 x22 x23 x24) ∈ news) (_ : DV t2 p2 n2 S2)
    (_ : (lr, listOf [Value.ref s3, Value.ref s4].toArray n') ∈ news) (_ : (s3, instObj 155 e3) ∈ news) (_ : (e3, decD w t3 p3 x31 x32 x33 x34) ∈ news) (_ : DV t3 p3 n3 R1) (_ : (s4, instObj 155 e4) ∈ news) (_ : (e4, decD w t4 p4 x41 x42 x43 x44) ∈ news) (_ : DV t4 p4 n4 R2) (_ : 0 < S1) (_ : S1 < 9223372036854775808) (_ : 0 < S2) (_ : S2 < 9223372036854775808) (_ : 0 ≤ pl) (_ : pl ≤ 12),
    Sp w none 20 (.ref 278) [.ref ls, .ref lr, .int pl k2] news (PDec w pl.toNat (min (R1 * 10 ^ pl.toNat / S1) (R2 * 10 ^ pl.toNat / S2) * 10 ^ (12 - pl.toNat))) := by
  intro w news s1 e1 x11 x12 x13 x14 t1 p1 S1 n1 s2 e2 x21 x22 x23 x24 t2 p2 S2 n2 s3 e3 x31 x32 x33 x34 t3 p3 R1 n3 s4 e4 x41 x42 x43 x44 t4 p4 R2 n4 ls n lr n' pl k2 ml m1 m2 v1 m3 m4 v2 mr m5 m6 v3 m7 m8 v4 hS1 hS1' hS2 hS2' hp hp2
  have ht1 := v1.pos hS1
  have ht2 := v2.pos hS2
  unfold Sp; k_fill; intro dp un gd cn cs a ccd cl outer A₀ base h₀ L m mean mg mb s Q E B F X N T hk hdp hu hret
  refine wpAny_call ?_
  k_dflt (refine' code_def (binds := [(Str.ofString "size", .ref ls), (Str.ofString "room", .ref lr), (Str.ofString "places", .int pl k2)]) ?k1 ?k2 ?k3 ?k4 ?k5 ?kA ?kF ?kK ?k6 ?k7 ?k8 ?k9 ?kB ?_ ?c2 ?c3 ?c4 ?c5; k_extra "m:E"; k_whole; intro g' L' h1' FG' F1 N1 B' X' T'; (try dsimp only); (try k_fold))
  dsimp only [List.reverse, List.reverseAux] at F1
  k_steps
  all_goals first
    | exact hret _ [_, _] _ _ (by assumption) (newsDrop (by assumption) (by k_extra "m:sub")) (fresh2' (by k_extra "m:lt") (by assumption)) ⟨_, _, _, _, _, _, _, _, rfl, rfl, by assumption, dv_min1 (by assumption) (by assumption)⟩
    | exact hret _ [_, _] _ _ (by assumption) (newsDrop (by assumption) (by k_extra "m:sub")) (fresh2' (by k_extra "m:lt") (by assumption)) ⟨_, _, _, _, _, _, _, _, rfl, rfl, by assumption, dv_min2 (by assumption) (by assumption)⟩


end
section
theorem cell_box : ∀ {w : World} {news : Led} {s1 e1 : Nat} {x11 x12 x13 x14 : Nat} {t1 p1 W : Int} {n1 : Nat} {s2 e2 : Nat} {x21 x22 x23 x24 : Nat} {t2 p2 H : Int} {n2 : Nat} {ls n : Nat} {c r i pl : Int} {k1 k2 k3 k4 : Tok}
    (_ : (ls, listOf [Value.ref s1, Value.ref s2].toArray n) ∈ news) (_ : (s1, instObj 155 e1) ∈ news) (_ : (e1, decD w t1 p1 x11 x12 x13 x14) ∈ news) (_ : DV t1 p1 n1 W) (_ : (s2, instObj 155 e2) ∈ news) (_ : (e2, decD w t2 p2 x21 x22 x23 x24) ∈ news) (_ : DV t2 p2 n2 H) (_ : 0 ≤ W) (_ : 0 ≤ H) (_ : 0 < c) (_ : c < 900) (_ : 0 < r) (_ : r < 900) (_ : 0 ≤ i) (_ : i < c * r) (_ : 0 ≤ pl) (_ : pl ≤ 12),
    Sp w none 20 (.ref 292) [.ref ls, .int c k1, .int r k2, .int i k3, .int pl k4] news (PBox w pl.toNat (rqv (W * (i % c)) (c * 10 ^ 12) pl.toNat * 10 ^ (12 - pl.toNat)) (rqv (H * (r - 1 - i / c)) (r * 10 ^ 12) pl.toNat * 10 ^ (12 - pl.toNat)) (rqv (W * (i % c + 1)) (c * 10 ^ 12) pl.toNat * 10 ^ (12 - pl.toNat)) (rqv (H * (r - 1 - i / c + 1)) (r * 10 ^ 12) pl.toNat * 10 ^ (12 - pl.toNat))) := by
  intro w news s1 e1 x11 x12 x13 x14 t1 p1 W n1 s2 e2 x21 x22 x23 x24 t2 p2 H n2 ls n c r i pl k1 k2 k3 k4 ml m1 m2 v1 m3 m4 v2 hW hH hc hc2 hr hr2 hi hi2 hp hp2
  have g1 := div_lt_rows hc hi2
  have g2 : 0 ≤ i / c := Int.ediv_nonneg hi (Int.le_of_lt hc)
  have g3 := Int.emod_nonneg i (Int.ne_of_gt hc)
  have g4 := Int.emod_lt_of_pos i hc
  unfold Sp; k_fill; intro dp un gd cn cs a ccd cl outer A₀ base h₀ L m mean mg mb s Q E B F X N T hk hdp hu hret
  refine wpAny_call ?_
  k_dflt (refine' code_def (binds := [(Str.ofString "sheet", .ref ls), (Str.ofString "columns", .int c k1), (Str.ofString "rows", .int r k2), (Str.ofString "at", .int i k3), (Str.ofString "places", .int pl k4)]) ?k1 ?k2 ?k3 ?k4 ?k5 ?kA ?kF ?kK ?k6 ?k7 ?k8 ?k9 ?kB ?_ ?c2 ?c3 ?c4 ?c5; k_extra "m:E"; k_whole; intro g' L' h1' FG' F1 N1 B' X' T'; (try dsimp only); (try k_fold))
  dsimp only [List.reverse, List.reverseAux] at F1
  k_steps
  all_goals exact hret _ [_, _, _, _, _, _, _, _, _] _ _ (by assumption) (newsDrop (by assumption) (by k_extra "m:sub")) (by k_extra "m:fresh") (PBox.mk (by assumption) (by assumption) (by assumption) (by assumption))

end
section
theorem mat_new : ∀ {w : World} {news : Led} {s1 e1 : Nat} {x11 x12 x13 x14 : Nat} {t1 p1 X1 : Int} {n1 : Nat} {s2 e2 : Nat} {x21 x22 x23 x24 : Nat} {t2 p2 X2 : Int} {n2 : Nat} {s3 e3 : Nat} {x31 x32 x33 x34 : Nat} {t3 p3 X3 : Int} {n3 : Nat} {k1 k2 : Tok} (_ : (s1, instObj 155 e1) ∈ news) (_ : (e1, decD w t1 p1 x11 x12 x13 x14) ∈ news) (_ : DV t1 p1 n1 X1) (_ : (s2, instObj 155 e2) ∈ news) (_ : (e2, decD w t2 p2 x21 x22 x23 x24) ∈ news) (_ : DV t2 p2 n2 X2) (_ : (s3, instObj 155 e3) ∈ news) (_ : (e3, decD w t3 p3 x31 x32 x33 x34) ∈ news) (_ : DV t3 p3 n3 X3),
    Sp w none 12 (.ref 260) [.ref s1, .int 0 k1, .int 0 k2, .ref s1, .ref s2, .ref s3] news (PMat0 w s1 s2 s3) := by
  intro w news s1 e1 x11 x12 x13 x14 t1 p1 X1 n1 s2 e2 x21 x22 x23 x24 t2 p2 X2 n2 s3 e3 x31 x32 x33 x34 t3 p3 X3 n3 k1 k2 m1 m2 v1 m3 m4 v2 m5 m6 v3
  unfold Sp; k_fill; intro dp un gd cn cs a ccd cl outer A₀ base h₀ L m mean mg mb s Q E B F X N T hk hdp hu hret
  k_dflt (refine' call_cls ?k1 ?k2 ?k3 ?k4 ?k5 ?k6 ?_; (case k1 => k_asm); (case k2 => k_asm); (case k3 => k_asm); (case k4 => k_is); (case k5 => k_is); (case k6 => k_is); k_whole; intro x' d' h' F' N' l1 l2; (try k_lt l1); (try k_lt2 l2); (try k_sweep))
  k_dflt (refine' code_def (binds := [(Str.ofString "self", .ref x'), (Str.ofString "a", .ref s1), (Str.ofString "b", .int 0 k1), (Str.ofString "c", .int 0 k2), (Str.ofString "d", .ref s1), (Str.ofString "e", .ref s2), (Str.ofString "f", .ref s3)]) ?k1 ?k2 ?k3 ?k4 ?k5 ?kA ?kF ?kK ?k6 ?k7 ?k8 ?k9 ?kB ?_ ?c2 ?c3 ?c4 ?c5; k_extra "m:E"; k_whole; intro g' L' h1' FG' F1 N1 B' X' T'; (try dsimp only); (try k_fold))
  dsimp only [List.reverse, List.reverseAux] at F1
  k_steps
  all_goals exact hret _ [_, _, _, _, _, _] _ _ (by assumption) (newsDrop (by assumption) (by k_extra "m:sub")) (by k_extra "m:fresh") (PMat0.mk (by assumption) (by assumption))

end
section
/-- the scale that fits -/
def zed (R1 R2 S1 S2 : Int) (k : Nat) : Int := min (R1 * 10 ^ k / S1) (R2 * 10 ^ k / S2) * 10 ^ (12 - k)
def ctr (A R S Z : Int) : Int := A + (R - S * Z / 10 ^ 12) * (5 * 10 ^ 11) / 10 ^ 12
theorem dv12 {t p X : Int} {n : Nat} (h : DV t p n X) : DV t p 12 X := h.mono h.2.2.1 (Nat.le_refl _)
theorem PMat.mk {w : World} {n : Nat} {Z R U : Int} {M dM m1 m2 m3 m4 m5 m6 a1 d1 i1 j1 k1 l1 a2 d2 i2 j2 k2 l2 a3 d3 i3 j3 k3 l3 a4 d4 i4 j4 k4 l4 a5 d5 i5 j5 k5 l5 : Nat} {t1 p1 t2 p2 t3 p3 t4 p4 t5 p5 : Int} (h1 : DV t1 p1 0 0) (h2 : DV t2 p2 0 0) (h3 : DV t3 p3 n Z) (h4 : DV t4 p4 12 R) (h5 : DV t5 p5 12 U) :
    PMat w n 12 12 Z R U (.ref M) [(M, instObj 260 dM), (dM, matD w (.ref a3) (.ref a1) (.ref a2) (.ref a3) (.ref a4) (.ref a5) m1 m2 m3 m4 m5 m6), (a1, instObj 155 d1), (d1, decD w t1 p1 i1 j1 k1 l1), (a2, instObj 155 d2), (d2, decD w t2 p2 i2 j2 k2 l2), (a3, instObj 155 d3), (d3, decD w t3 p3 i3 j3 k3 l3), (a4, instObj 155 d4), (d4, decD w t4 p4 i4 j4 k4 l4), (a5, instObj 155 d5), (d5, decD w t5 p5 i5 j5 k5 l5)] :=
  ⟨M, dM, m1, m2, m3, m4, m5, m6, a1, d1, i1, j1, k1, l1, a2, d2, i2, j2, k2, l2, a3, d3, i3, j3, k3, l3, a4, d4, i4, j4, k4, l4, a5, d5, i5, j5, k5, l5, t1, p1, t2, p2, t3, p3, t4, p4, t5, p5, rfl, rfl, h1, h2, h3, h4, h5⟩
theorem cell_matrix : ∀ {w : World} {news : Led} {s1 e1 : Nat} {x11 x12 x13 x14 : Nat} {t1 p1 S1 : Int} {n1 : Nat} {s2 e2 : Nat} {x21 x22 x23 x24 : Nat} {t2 p2 S2 : Int} {n2 : Nat} {s3 e3 : Nat} {x31 x32 x33 x34 : Nat} {t3 p3 XA : Int} {n3 : Nat} {s4 e4 : Nat} {x41 x42 x43 x44 : Nat} {t4 p4 XB : Int} {n4 : Nat} {s5 e5 : Nat} {x51 x52 x53 x54 : Nat} {t5 p5 XC : Int} {n5 : Nat} {s6 e6 : Nat} {x61 x62 x63 x64 : Nat} {t6 p6 XD : Int} {n6 : Nat} {ls n lc : Nat} {pl : Int} {k2 : Tok}
    (_ : (ls, listOf [Value.ref s1, Value.ref s2].toArray n) ∈ news) (_ : (s1, instObj 155 e1) ∈ news) (_ : (e1, decD w t1 p1 x11 x12 x13 x14) ∈ news) (_ : DV t1 p1 n1 S1) (_ : (s2, instObj 155 e2) ∈ news) (_ : (e2, decD w t2 p2 x21 x22 x23 x24) ∈ news) (_ : DV t2 p2 n2 S2)
    (_ : (lc, tup4 (.ref s3) (.ref s4) (.ref s5) (.ref s6)) ∈ news) (_ : (s3, instObj 155 e3) ∈ news) (_ : (e3, decD w t3 p3 x31 x32 x33 x34) ∈ news) (_ : DV t3 p3 n3 XA) (_ : (s4, instObj 155 e4) ∈ news) (_ : (e4, decD w t4 p4 x41 x42 x43 x44) ∈ news) (_ : DV t4 p4 n4 XB) (_ : (s5, instObj 155 e5) ∈ news) (_ : (e5, decD w t5 p5 x51 x52 x53 x54) ∈ news) (_ : DV t5 p5 n5 XC) (_ : (s6, instObj 155 e6) ∈ news) (_ : (e6, decD w t6 p6 x61 x62 x63 x64) ∈ news) (_ : DV t6 p6 n6 XD) (_ : 0 < S1) (_ : S1 < 9223372036854775808) (_ : 0 < S2) (_ : S2 < 9223372036854775808) (_ : 0 ≤ pl) (_ : pl ≤ 4) (_ : n1 ≤ 2) (_ : n2 ≤ 2) (_ : n3 ≤ 4) (_ : n4 ≤ 4) (_ : n5 ≤ 4) (_ : n6 ≤ 4),
    Sp w none 30 (.ref 299) [.ref ls, .ref lc, .int pl k2] news (PMat w pl.toNat 12 12 (zed (XC - XA) (XD - XB) S1 S2 pl.toNat) (ctr XA (XC - XA) S1 (zed (XC - XA) (XD - XB) S1 S2 pl.toNat)) (ctr XB (XD - XB) S2 (zed (XC - XA) (XD - XB) S1 S2 pl.toNat))) := by
  intro w news s1 e1 x11 x12 x13 x14 t1 p1 S1 n1 s2 e2 x21 x22 x23 x24 t2 p2 S2 n2 s3 e3 x31 x32 x33 x34 t3 p3 XA n3 s4 e4 x41 x42 x43 x44 t4 p4 XB n4 s5 e5 x51 x52 x53 x54 t5 p5 XC n5 s6 e6 x61 x62 x63 x64 t6 p6 XD n6 ls n lc pl k2 ml m1 m2 v1 m3 m4 v2 mc m5 m6 v3 m7 m8 v4 m9 m10 v5 m11 m12 v6 hS1 hS1' hS2 hS2' hp hp2 q1 q2 q3 q4 q5 q6
  unfold Sp; k_fill; intro dp un gd cn cs a ccd cl outer A₀ base h₀ L m mean mg mb s Q E B F X N T hk hdp hu hret
  refine wpAny_call ?_
  k_dflt (refine' code_def (binds := [(Str.ofString "size", .ref ls), (Str.ofString "cell", .ref lc), (Str.ofString "places", .int pl k2)]) ?k1 ?k2 ?k3 ?k4 ?k5 ?kA ?kF ?kK ?k6 ?k7 ?k8 ?k9 ?kB ?_ ?c2 ?c3 ?c4 ?c5; k_extra "m:E"; k_whole; intro g' L' h1' FG' F1 N1 B' X' T'; (try dsimp only); (try k_fold))
  dsimp only [List.reverse, List.reverseAux] at F1
  k_steps
  all_goals exact hret _ [_, _, _, _, _, _, _, _, _, _, _, _] _ _ (by assumption) (newsDrop (by assumption) (by k_extra "m:sub")) (by k_extra "m:fresh") (PMat.mk (by assumption) (by assumption) (by assumption) (dv12 (by assumption)) (dv12 (by assumption)))

end
section
section
variable {prog : Program} {w : World} {A : Around} {E : Value → Shared → Prop} {s : Shared} {h₀ : Heap} {L : Addr} {m : Str → Option Value} {env : Env}
abbrev tupO (its : Array Value) (n : Nat) : Obj := { cls := .type "tuple", data := .seq its n }
/-- a comprehension's source that is a tuple of the ledger -/
def SrcT (prog : Program) (w : World) (A : Around) (h₀ : Heap) (L : Addr) (m : Str → Option Value) (env : Env) (elt : PySem.Expr) (x : Str) (scope : Scope) (cl : List (Str × Addr)) (Fin : Shared → List Value → Led → Prop) (xv : Value) (s₁ : Shared) : Prop :=
  ∃ (ax : Addr) (its : Array Value) (n : Nat) (news : Led), xv = .ref ax ∧ A.handled = none ∧ Fr h₀ L s₁.heap m ∧ News h₀ L s₁.heap news ∧ (ax, tupO its n) ∈ news ∧ its.size ≤ sizeLine ∧
    ∀ g, LCg.CompRest prog w A h₀ L m env elt x scope cl { s₁ with heap := g } (fun nw => (ax, tupO its n) ∈ nw) (fun i v => its[i]? = some v) (Fin { s₁ with heap := g }) its.size 0 [] news
/-- or a list of the ledger -/
def SrcS (prog : Program) (w : World) (A : Around) (h₀ : Heap) (L : Addr) (m : Str → Option Value) (env : Env) (elt : PySem.Expr) (x : Str) (scope : Scope) (cl : List (Str × Addr)) (Fin : Shared → List Value → Led → Prop) (xv : Value) (s₁ : Shared) : Prop :=
  ∃ (ax : Addr) (its : Array Value) (n : Nat) (news : Led), xv = .ref ax ∧ A.handled = none ∧ Fr h₀ L s₁.heap m ∧ News h₀ L s₁.heap news ∧ (ax, listOf its n) ∈ news ∧ its.size ≤ sizeLine ∧
    ∀ g, LCg.CompRest prog w A h₀ L m env elt x scope cl { s₁ with heap := g } (fun nw => (ax, listOf its n) ∈ nw) (fun i v => its[i]? = some v) (Fin { s₁ with heap := g }) its.size 0 [] news
/-- or a range of any step -/
def SrcG (prog : Program) (w : World) (A : Around) (h₀ : Heap) (L : Addr) (m : Str → Option Value) (env : Env) (elt : PySem.Expr) (x : Str) (scope : Scope) (cl : List (Str × Addr)) (Fin : Shared → List Value → Led → Prop) (xv : Value) (s₁ : Shared) : Prop :=
  ∃ r a b st t u v n news, xv = .ref r ∧ A.handled = none ∧ Fr h₀ L s₁.heap m ∧ News h₀ L s₁.heap news ∧ IsRange s₁.heap r a b st t u v ∧ Builtin.Range.small a b st = true ∧ Builtin.Range.rangeSize a b st = ((n : Nat) : Int) ∧ n ≤ sizeLine ∧
    ∀ g, LCg.CompRest prog w A h₀ L m env elt x scope cl { s₁ with heap := g } (fun _ => True) (fun i v => ∃ t, v = .int (a + (i : Int) * st) t) (Fin { s₁ with heap := g }) n 0 [] news
def SrcX (prog : Program) (w : World) (A : Around) (h₀ : Heap) (L : Addr) (m : Str → Option Value) (env : Env) (elt : PySem.Expr) (x : Str) (scope : Scope) (cl : List (Str × Addr)) (Fin : Shared → List Value → Led → Prop) (xv : Value) (s₁ : Shared) : Prop :=
  SrcT prog w A h₀ L m env elt x scope cl Fin xv s₁ ∨ SrcS prog w A h₀ L m env elt x scope cl Fin xv s₁ ∨ SrcG prog w A h₀ L m env elt x scope cl Fin xv s₁
theorem SrcX.tup {elt : PySem.Expr} {x : Str} {scope : Scope} {cl : List (Str × Addr)} {Fin : Shared → List Value → Led → Prop} {ax : Addr} {its : Array Value} {n : Nat} {news : Led} {s₁ : Shared}
    (hh : A.handled = none) (F : Fr h₀ L s₁.heap m) (N : News h₀ L s₁.heap news) (hm : (ax, tupO its n) ∈ news) (hsz : its.size ≤ sizeLine)
    (h : ∀ g, LCg.CompRest prog w A h₀ L m env elt x scope cl { s₁ with heap := g } (fun nw => (ax, tupO its n) ∈ nw) (fun i v => its[i]? = some v) (Fin { s₁ with heap := g }) its.size 0 [] news) :
    SrcX prog w A h₀ L m env elt x scope cl Fin (.ref ax) s₁ := .inl ⟨ax, its, n, news, rfl, hh, F, N, hm, hsz, h⟩
theorem SrcX.lst {elt : PySem.Expr} {x : Str} {scope : Scope} {cl : List (Str × Addr)} {Fin : Shared → List Value → Led → Prop} {ax : Addr} {its : Array Value} {n : Nat} {news : Led} {s₁ : Shared}
    (hh : A.handled = none) (F : Fr h₀ L s₁.heap m) (N : News h₀ L s₁.heap news) (hm : (ax, listOf its n) ∈ news) (hsz : its.size ≤ sizeLine)
    (h : ∀ g, LCg.CompRest prog w A h₀ L m env elt x scope cl { s₁ with heap := g } (fun nw => (ax, listOf its n) ∈ nw) (fun i v => its[i]? = some v) (Fin { s₁ with heap := g }) its.size 0 [] news) :
    SrcX prog w A h₀ L m env elt x scope cl Fin (.ref ax) s₁ := .inr (.inl ⟨ax, its, n, news, rfl, hh, F, N, hm, hsz, h⟩)
theorem SrcX.rng {elt : PySem.Expr} {x : Str} {scope : Scope} {cl : List (Str × Addr)} {Fin : Shared → List Value → Led → Prop} {r : Addr} {a b st : Int} {t u v : Tok} {n : Nat} {news : Led} {s₁ : Shared}
    (hh : A.handled = none) (F : Fr h₀ L s₁.heap m) (N : News h₀ L s₁.heap news) (hr : IsRange s₁.heap r a b st t u v) (hsm : Builtin.Range.small a b st = true) (hn : Builtin.Range.rangeSize a b st = ((n : Nat) : Int)) (hsz : n ≤ sizeLine)
    (h : ∀ g, LCg.CompRest prog w A h₀ L m env elt x scope cl { s₁ with heap := g } (fun _ => True) (fun i v => ∃ t, v = .int (a + (i : Int) * st) t) (Fin { s₁ with heap := g }) n 0 [] news) :
    SrcX prog w A h₀ L m env elt x scope cl Fin (.ref r) s₁ := .inr (.inr ⟨r, a, b, st, t, u, v, n, news, rfl, hh, F, N, hr, hsm, hn, hsz, h⟩)
theorem rangeG_walks {I : Addr} (hh : A.handled = none) (a st : Int) (n : Nat) : Walks prog w A I [I] [I] n (fun i v => ∃ t, v = .int (a + (i : Int) * st) t) (fun i h => IsRangeIter h I (a + (i : Nat) * st) ((n : Int) - (i : Nat)) st) :=
  let W : Walks prog w A I [I] [I] n (fun i v => i < n ∧ ∃ t, v = .int (a + i * st) t) (fun i h => IsRangeIter h I (a + (i : Nat) * st) ((n : Int) - (i : Nat)) st) := (Walks.range hh I a st n).bound
  { sub := W.sub, frame := W.frame, done := W.done, self := W.self,
    item := fun i s Q E hi st hQ => W.item i s Q E hi st fun v h' tk hP => hQ v h' tk (by obtain ⟨_, t, rfl⟩ := hP; exact ⟨t, rfl⟩) }
theorem rangeG_st {I : Addr} {a d : Int} {n : Nat} : ∀ i (h h' : Heap) (o : Obj) (nw : Led), IsRangeIter h I (a + (i : Nat) * d) ((n : Int) - (i : Nat)) d → h.get? I = some o → h'.get? I = some o → (∀ b o, h₀.get? b = some o → h'.get? b = some o) → News h₀ L h' nw → True → IsRangeIter h' I (a + (i : Nat) * d) ((n : Int) - (i : Nat)) d :=
  fun i h h' o nw st e e' _ _ _ => by
    have st' : h.get? I = some _ := st
    show h'.get? I = some _
    rw [e', ← e]; exact st'
theorem lst_st {ax I : Addr} {its : Array Value} {n : Nat} : ∀ i (h h' : Heap) (o : Obj) (nw : Led), (h.IsListIter I ax i ∧ h.IsList ax its) → h.get? I = some o → h'.get? I = some o → (∀ b o, h₀.get? b = some o → h'.get? b = some o) → News h₀ L h' nw → (ax, listOf its n) ∈ nw → (h'.IsListIter I ax i ∧ h'.IsList ax its) :=
  fun i h h' o nw st e e' _ N S => ⟨by obtain ⟨o', q, r⟩ := st.1; rw [e] at q; cases q; exact ⟨o, e', r⟩, ⟨_, (N _ S).1, rfl, n, rfl⟩⟩
theorem tup_st {ax I : Addr} {its : Array Value} {n : Nat} : ∀ i (h h' : Heap) (o : Obj) (nw : Led), (h.IsTupleIter I ax i ∧ h.IsTuple ax its) → h.get? I = some o → h'.get? I = some o → (∀ b o, h₀.get? b = some o → h'.get? b = some o) → News h₀ L h' nw → (ax, tupO its n) ∈ nw → (h'.IsTupleIter I ax i ∧ h'.IsTuple ax its) :=
  fun i h h' o nw st e e' _ N S => ⟨by obtain ⟨o', q, r⟩ := st.1; rw [e] at q; cases q; exact ⟨o, e', r⟩, ⟨_, (N _ S).1, rfl, n, rfl⟩⟩
theorem ListComp_X {elt iter : PySem.Expr} {x : Str} {px : Pos} {scope : Scope} {cl : List (Str × Addr)} {pos : Pos} {Q : Value → Shared → Prop} (F₀ : Fr h₀ L s.heap m)
    (hclos : closureFor scope env = pure cl) (hcell : ∀ y ∈ scope.names, y.2 ≠ .cell) (hkind : scope.kind = .function)
    (hnames : ∀ y ∈ scope.names, y.2 = .local → scope.names.lookup y.1 = some .local) (hx : scope.names.lookup x = some .local)
    (h : wpAny (model prog w) A (eval iter env) (SrcX prog w A h₀ L m env elt x scope cl (fun s₂ => LCg.FinE h₀ L m s₂ Q)) E s)
    (hs : ∀ x, foldedSetIterable iter env x = pure x := by intro _; rfl) :
    wpAny (model prog w) A (eval (.ListComp elt [⟨.Name x px, iter, [], 0⟩] scope pos) env) Q E s := by
  rw [eval_ListComp]
  refine wpAny_comprehension_free (use := none) rfl hs hclos hkind hnames (wpAny_mono h (fun xv s₁ h₁ => ?_) fun _ _ e => e)
  rcases h₁ with ⟨ax, its, n, news, rfl, hh, F, N, hm, hsz, R⟩ | ⟨ax, its, n, news, rfl, hh, F, N, hm, hsz, R⟩ | ⟨r, a, b, st, t, u, v, n, news, rfl, hh, F, N, hr, hsm, hn, hsz, R⟩
  · have hl : s₁.heap.IsTuple ax its := ⟨_, (N _ hm).1, rfl, n, rfl⟩
    have hlt : ax < s₁.heap.objs.size := Heap.lt_size (N _ hm).1
    refine wpAny_pyIter_tuple hl ?_
    have up : ∀ b o, s₁.heap.get? b = some o → (s₁.heap.push { cls := .type "tuple_iterator", data := .fields #[.ref ax, .int 0 0] }).get? b = some o := fun b o e => Heap.get?_push_of_some _ e
    refine LCg.block_U (Walks.tuple hh s₁.heap.objs.size ax (Nat.ne_of_lt hlt) its) hsz (fun i h st => by obtain ⟨o, e, _⟩ := st.1; exact ⟨o, e⟩) tup_st hcell hkind hx ⟨⟨_, Heap.get?_push_size _ rfl, rfl, rfl⟩, hl.at fun o e => up _ o e⟩ (fun b hb => ?_)
      (F.keeps up) (N.grown up) (Nat.ne_of_lt F.ns.lt) (next_is_new F) (fun p hp => Nat.ne_of_lt (Heap.lt_size (N p hp).1)) hm (R _) ?_
    · show b < (s₁.heap.push _).objs.size
      rw [Heap.size_push]
      rcases List.mem_cons.mp hb with rfl | hb
      · exact Nat.lt_succ_self _
      · rw [List.mem_singleton.mp hb]; exact Nat.lt_succ_of_lt hlt
    · intro D C h tk m' ys news' F' N' o1 hn hC₀ hD₀ hCL hDL hCD offC fin
      refine ⟨m', hn, fun h'' hs'' => fin D h'' tk (F'.change hs'' hCL hC₀) (fun p hp => ?_) o1⟩
      refine ⟨hs''.extBut _ _ ?_ (N' p hp).1, (N' p hp).2⟩
      rcases List.mem_cons.mp hp with rfl | hp
      · exact Ne.symm hCD
      · exact offC p hp
  · have hl : s₁.heap.IsList ax its := ⟨_, (N _ hm).1, rfl, n, rfl⟩
    have hlt : ax < s₁.heap.objs.size := Heap.lt_size (N _ hm).1
    refine wpAny_pyIter_list hl ?_
    have up : ∀ b o, s₁.heap.get? b = some o → (s₁.heap.push { cls := .type "list_iterator", data := .fields #[.ref ax, .int 0 0] }).get? b = some o := fun b o e => Heap.get?_push_of_some _ e
    refine LCg.block_U (Walks.list hh s₁.heap.objs.size ax (Nat.ne_of_lt hlt) its) hsz (fun i h st => by obtain ⟨o, e, _⟩ := st.1; exact ⟨o, e⟩) lst_st hcell hkind hx ⟨⟨_, Heap.get?_push_size _ rfl, rfl, rfl⟩, hl.push _⟩ (fun b hb => ?_)
      (F.keeps up) (N.grown up) (Nat.ne_of_lt F.ns.lt) (next_is_new F) (fun p hp => Nat.ne_of_lt (Heap.lt_size (N p hp).1)) hm (R _) ?_
    · show b < (s₁.heap.push _).objs.size
      rw [Heap.size_push]
      rcases List.mem_cons.mp hb with rfl | hb
      · exact Nat.lt_succ_self _
      · rw [List.mem_singleton.mp hb]; exact Nat.lt_succ_of_lt hlt
    · intro D C h tk m' ys news' F' N' o1 hn hC₀ hD₀ hCL hDL hCD offC fin
      refine ⟨m', hn, fun h'' hs'' => fin D h'' tk (F'.change hs'' hCL hC₀) (fun p hp => ?_) o1⟩
      refine ⟨hs''.extBut _ _ ?_ (N' p hp).1, (N' p hp).2⟩
      rcases List.mem_cons.mp hp with rfl | hp
      · exact Ne.symm hCD
      · exact offC p hp
  · refine wpAny_pyIter_range hr hsm ?_
    refine LCg.block_U (rangeG_walks hh a st n) hsz (fun i h st => ⟨_, st⟩) rangeG_st hcell hkind hx (by show IsRangeIter _ _ _ _ _; rw [hn]; simpa using Heap.get?_push_size _ rfl) (fun b hb => ?_)
      (F.keeps fun _ _ e => Heap.get?_push_of_some _ e) (N.grown fun _ _ e => Heap.get?_push_of_some _ e) (Nat.ne_of_lt F.ns.lt) (next_is_new F) (fun p hp => Nat.ne_of_lt (Heap.lt_size (N p hp).1)) trivial (R _) ?_
    · rw [List.mem_singleton.mp hb]
      show s₁.heap.objs.size < (s₁.heap.push _).objs.size
      rw [Heap.size_push]; exact Nat.lt_succ_self _
    · intro D C h tk m' ys news' F' N' o1 hn hC₀ hD₀ hCL hDL hCD offC fin
      refine ⟨m', hn, fun h'' hs'' => fin D h'' tk (F'.change hs'' hCL hC₀) (fun p hp => ?_) o1⟩
      refine ⟨hs''.extBut _ _ ?_ (N' p hp).1, (N' p hp).2⟩
      rcases List.mem_cons.mp hp with rfl | hp
      · exact Ne.symm hCD
      · exact offC p hp
theorem Assign_ListComp_X {elt iter : PySem.Expr} {x y : Str} {px py : Pos} {scope : Scope} {cl : List (Str × Addr)} {pos spos : Pos} {Q : Flow → Shared → Prop} (F₀ : Fr h₀ L s.heap m) (hLe : env.locals = L)
    (hsw : swapsWith (.ListComp elt [⟨.Name x px, iter, [], 0⟩] scope pos) (some (.Name y py)) spos.line env = pure true)
    (hclos : closureFor scope env = pure cl) (hcell : ∀ z ∈ scope.names, z.2 ≠ .cell) (hkind : scope.kind = .function)
    (hnames : ∀ z ∈ scope.names, z.2 = .local → scope.names.lookup z.1 = some .local) (hx : scope.names.lookup x = some .local)
    (hy : env.kindOf y = some .local) (hp : (env.scope.kind == .class || (env.scope.kind == .module && env.locals != env.globals)) = false)
    (h : wpAny (model prog w) A (eval iter env) (SrcX prog w A h₀ L m env elt x scope cl (fun s₂ => LCg.FinA h₀ L m s₂ y Q)) E s)
    (hs : ∀ x, foldedSetIterable iter env x = pure x := by intro _; rfl) :
    wpAny (model prog w) A (exec (.Assign [.Name y py] (.ListComp elt [⟨.Name x px, iter, [], 0⟩] scope pos) spos) env) Q E s := by
  subst hLe
  rw [exec_Assign_Name_used _ _ _ _ hsw]
  refine wpAny_bind (wpAny_standAt (wpAny_bind ?_))
  show wpAny _ A (do let _ ← comprehension (.ListComp elt [⟨.Name x px, iter, [], 0⟩] scope pos) scope env _ (newList []) false (eval iter env) (some (assign (.Name y py) env))) _ _ s
  refine wpAny_bind (wpAny_mono (wpAny_comprehension_free (use := some (assign (.Name y py) env)) (Q := fun _ s' => Q .next s') rfl hs hclos hkind hnames
    (wpAny_mono h (fun xv s₁ h₁ => ?_) fun _ _ e => e)) (fun _ s' hq => wpAny_pure (wpAny_pure hq)) fun _ _ e => e)
  rcases h₁ with ⟨ax, its, n, news, rfl, hh, F, N, hm, hsz, R⟩ | ⟨ax, its, n, news, rfl, hh, F, N, hm, hsz, R⟩ | ⟨r, a, b, st, t, u, v, n, news, rfl, hh, F, N, hr, hsm, hn, hsz, R⟩
  · have hl : s₁.heap.IsTuple ax its := ⟨_, (N _ hm).1, rfl, n, rfl⟩
    have hlt : ax < s₁.heap.objs.size := Heap.lt_size (N _ hm).1
    refine wpAny_pyIter_tuple hl ?_
    have up : ∀ b o, s₁.heap.get? b = some o → (s₁.heap.push { cls := .type "tuple_iterator", data := .fields #[.ref ax, .int 0 0] }).get? b = some o := fun b o e => Heap.get?_push_of_some _ e
    refine LCg.block_U (Walks.tuple hh s₁.heap.objs.size ax (Nat.ne_of_lt hlt) its) hsz (fun i h st => by obtain ⟨o, e, _⟩ := st.1; exact ⟨o, e⟩) tup_st hcell hkind hx ⟨⟨_, Heap.get?_push_size _ rfl, rfl, rfl⟩, hl.at fun o e => up _ o e⟩ (fun b hb => ?_)
      (F.keeps up) (N.grown up) (Nat.ne_of_lt F.ns.lt) (next_is_new F) (fun p hp => Nat.ne_of_lt (Heap.lt_size (N p hp).1)) hm (R _) ?_
    · show b < (s₁.heap.push _).objs.size
      rw [Heap.size_push]
      rcases List.mem_cons.mp hb with rfl | hb
      · exact Nat.lt_succ_self _
      · rw [List.mem_singleton.mp hb]; exact Nat.lt_succ_of_lt hlt
    · intro D C h' tk m' ys news' F' N' o1 hn hC₀ hD₀ hCL hDL hCD offC fin
      show wpAny _ A (assign (.Name y py) env (.ref D)) _ _ _
      refine wpAny_assign_Name (wpAny_storeName_local hy F'.ns (fun h₂ hn₂ hs₂ => ?_) hp)
      have hL₀ : h₀.get? env.locals = none := Heap.get?_none_of_le F'.above
      have F₂ : Fr h₀ env.locals h₂ (fun z => if z = y then some (.ref D) else m z) := ⟨hn₂, fun b o e => hs₂.extBut b o (fun q => by rw [q, hL₀] at e; cases e) (F'.keep b o e), F'.above⟩
      refine ⟨m', hn.sameBut hs₂ hCL, fun h'' hs'' => fin D h'' _ (F₂.change hs'' hCL hC₀) (fun p hp => ?_) o1⟩
      have z : h₂.get? p.1 = some p.2 := hs₂.extBut _ _ (N' p hp).2.1 (N' p hp).1
      refine ⟨hs''.extBut _ _ ?_ z, (N' p hp).2⟩
      rcases List.mem_cons.mp hp with rfl | hp
      · exact Ne.symm hCD
      · exact offC p hp
  · have hl : s₁.heap.IsList ax its := ⟨_, (N _ hm).1, rfl, n, rfl⟩
    have hlt : ax < s₁.heap.objs.size := Heap.lt_size (N _ hm).1
    refine wpAny_pyIter_list hl ?_
    have up : ∀ b o, s₁.heap.get? b = some o → (s₁.heap.push { cls := .type "list_iterator", data := .fields #[.ref ax, .int 0 0] }).get? b = some o := fun b o e => Heap.get?_push_of_some _ e
    refine LCg.block_U (Walks.list hh s₁.heap.objs.size ax (Nat.ne_of_lt hlt) its) hsz (fun i h st => by obtain ⟨o, e, _⟩ := st.1; exact ⟨o, e⟩) lst_st hcell hkind hx ⟨⟨_, Heap.get?_push_size _ rfl, rfl, rfl⟩, hl.push _⟩ (fun b hb => ?_)
      (F.keeps up) (N.grown up) (Nat.ne_of_lt F.ns.lt) (next_is_new F) (fun p hp => Nat.ne_of_lt (Heap.lt_size (N p hp).1)) hm (R _) ?_
    · show b < (s₁.heap.push _).objs.size
      rw [Heap.size_push]
      rcases List.mem_cons.mp hb with rfl | hb
      · exact Nat.lt_succ_self _
      · rw [List.mem_singleton.mp hb]; exact Nat.lt_succ_of_lt hlt
    · intro D C h' tk m' ys news' F' N' o1 hn hC₀ hD₀ hCL hDL hCD offC fin
      show wpAny _ A (assign (.Name y py) env (.ref D)) _ _ _
      refine wpAny_assign_Name (wpAny_storeName_local hy F'.ns (fun h₂ hn₂ hs₂ => ?_) hp)
      have hL₀ : h₀.get? env.locals = none := Heap.get?_none_of_le F'.above
      have F₂ : Fr h₀ env.locals h₂ (fun z => if z = y then some (.ref D) else m z) := ⟨hn₂, fun b o e => hs₂.extBut b o (fun q => by rw [q, hL₀] at e; cases e) (F'.keep b o e), F'.above⟩
      refine ⟨m', hn.sameBut hs₂ hCL, fun h'' hs'' => fin D h'' _ (F₂.change hs'' hCL hC₀) (fun p hp => ?_) o1⟩
      have z : h₂.get? p.1 = some p.2 := hs₂.extBut _ _ (N' p hp).2.1 (N' p hp).1
      refine ⟨hs''.extBut _ _ ?_ z, (N' p hp).2⟩
      rcases List.mem_cons.mp hp with rfl | hp
      · exact Ne.symm hCD
      · exact offC p hp
  · refine wpAny_pyIter_range hr hsm ?_
    refine LCg.block_U (rangeG_walks hh a st n) hsz (fun i h st => ⟨_, st⟩) rangeG_st hcell hkind hx (by show IsRangeIter _ _ _ _ _; rw [hn]; simpa using Heap.get?_push_size _ rfl) (fun b hb => ?_)
      (F.keeps fun _ _ e => Heap.get?_push_of_some _ e) (N.grown fun _ _ e => Heap.get?_push_of_some _ e) (Nat.ne_of_lt F.ns.lt) (next_is_new F) (fun p hp => Nat.ne_of_lt (Heap.lt_size (N p hp).1)) trivial (R _) ?_
    · rw [List.mem_singleton.mp hb]
      show s₁.heap.objs.size < (s₁.heap.push _).objs.size
      rw [Heap.size_push]; exact Nat.lt_succ_self _
    · intro D C h' tk m' ys news' F' N' o1 hn hC₀ hD₀ hCL hDL hCD offC fin
      show wpAny _ A (assign (.Name y py) env (.ref D)) _ _ _
      refine wpAny_assign_Name (wpAny_storeName_local hy F'.ns (fun h₂ hn₂ hs₂ => ?_) hp)
      have hL₀ : h₀.get? env.locals = none := Heap.get?_none_of_le F'.above
      have F₂ : Fr h₀ env.locals h₂ (fun z => if z = y then some (.ref D) else m z) := ⟨hn₂, fun b o e => hs₂.extBut b o (fun q => by rw [q, hL₀] at e; cases e) (F'.keep b o e), F'.above⟩
      refine ⟨m', hn.sameBut hs₂ hCL, fun h'' hs'' => fin D h'' _ (F₂.change hs'' hCL hC₀) (fun p hp => ?_) o1⟩
      have z : h₂.get? p.1 = some p.2 := hs₂.extBut _ _ (N' p hp).2.1 (N' p hp).1
      refine ⟨hs''.extBut _ _ ?_ z, (N' p hp).2⟩
      rcases List.mem_cons.mp hp with rfl | hp
      · exact Ne.symm hCD
      · exact offC p hp
end

end
section
theorem large_val {t p X : Int} {n : Nat} (v : DV t p n X) : t * 10 ^ (12 - p).toNat = X := by
  obtain ⟨a1, a2, a3, a4⟩ := v
  rw [← a4]; congr 2; omega
theorem law_large : ∀ {w : World} {news : Led} {a1 d1 i1 i2 i3 i4 : Nat} {t1 p1 X1 : Int} {n1 : Nat} (_ : (a1, instObj 155 d1) ∈ news) (_ : (d1, decD w t1 p1 i1 i2 i3 i4) ∈ news) (_ : DV t1 p1 n1 X1),
    Sp w none 3 (.ref 323) [.ref a1] news (PInt X1) := by
  intro w news a1 d1 i1 i2 i3 i4 t1 p1 X1 n1 m1 m2 v1
  have q1 := v1.1
  have q3 := v1.2.1
  have q5 := v1.2.2.1
  unfold Sp; k_fill; intro dp un gd cn cs a ccd cl outer A₀ base h₀ L m mean mg mb s Q E B F X N T hk hdp hu hret
  refine wpAny_call ?_
  k_dflt (refine' code_def (binds := [(Str.ofString "number", .ref a1)]) ?k1 ?k2 ?k3 ?k4 ?k5 ?kA ?kF ?kK ?k6 ?k7 ?k8 ?k9 ?kB ?_ ?c2 ?c3 ?c4 ?c5; k_extra "m:E"; k_whole; intro g' L' h1' FG' F1 N1 B' X' T'; (try dsimp only); (try k_fold))
  dsimp only [List.reverse, List.reverseAux] at F1
  k_steps
  all_goals exact hret _ [] _ _ (by assumption) (by assumption) fresh0 ⟨rfl, _, congrArg (Value.int · _) (large_val v1)⟩
theorem edge_pos {p c : Int} (hc : 0 < c) : 0 < 2 * 10 ^ p.toNat * c := Int.mul_pos (by have := p10_pos p.toNat; omega) hc
theorem edge_lt {p c : Int} (hp : p ≤ 12) (hc : 0 < c) (hc2 : c < 1000) : 2 * 10 ^ p.toNat * c < 18446744073709551616 := by
  have h1 : (10 : Int) ^ p.toNat ≤ 10 ^ 12 := p10_le (by omega)
  have h2 := p10_pos p.toNat
  have h3 := Int.mul_le_mul_of_nonneg_right h1 (Int.le_of_lt hc)
  rw [Int.mul_assoc]
  omega
theorem edge_val {t p X part c : Int} {n k : Nat} (v : DV t p n X) : (2 * t * part * 10 ^ k + 10 ^ p.toNat * c) / (2 * 10 ^ p.toNat * c) = rqv (X * part) (c * 10 ^ 12) k := by
  obtain ⟨a1, a2, a3, a4⟩ := v
  unfold rqv
  have e : (10 : Int) ^ 12 = 10 ^ p.toNat * 10 ^ (12 - p.toNat) := by rw [← Int.pow_add]; congr 1; omega
  have e1 : 2 * (X * part * 10 ^ k) + c * 10 ^ 12 = 10 ^ (12 - p.toNat) * (2 * t * part * 10 ^ k + 10 ^ p.toNat * c) := by
    rw [← a4, e, Int.mul_add]
    congr 1
    · ac_rfl
    · ac_rfl
  have e2 : 2 * (c * 10 ^ 12) = 10 ^ (12 - p.toNat) * (2 * 10 ^ p.toNat * c) := by
    rw [e]; ac_rfl
  rw [e1, e2, Int.mul_ediv_mul_of_pos _ _ (p10_pos _)]
theorem law_edge : ∀ {w : World} {news : Led} {a1 d1 i1 i2 i3 i4 : Nat} {t1 p1 X1 : Int} {n1 : Nat} (_ : (a1, instObj 155 d1) ∈ news) (_ : (d1, decD w t1 p1 i1 i2 i3 i4) ∈ news) (_ : DV t1 p1 n1 X1) {part parts pl : Int} {k k2 k3 : Tok} (_ : 0 ≤ part) (_ : part < 1000) (_ : 0 < parts) (_ : parts < 1000) (_ : 0 ≤ pl) (_ : pl ≤ 12),
    Sp w none 3 (.ref 330) [.ref a1, .int part k, .int parts k2, .int pl k3] news (PInt (rqv (X1 * part) (parts * 10 ^ 12) pl.toNat * 10 ^ (12 - pl.toNat))) := by
  intro w news a1 d1 i1 i2 i3 i4 t1 p1 X1 n1 m1 m2 v1 part parts pl k k2 k3 h1 h2 h3 h4 h5 h6
  have q1 := v1.1
  have q3 := v1.2.1
  have q5 := v1.2.2.1
  have g1 := edge_pos (p := p1) h3
  have g2 := edge_lt (p := p1) (by omega) h3 h4
  unfold Sp; k_fill; intro dp un gd cn cs a ccd cl outer A₀ base h₀ L m mean mg mb s Q E B F X N T hk hdp hu hret
  refine wpAny_call ?_
  k_dflt (refine' code_def (binds := [(Str.ofString "length", .ref a1), (Str.ofString "part", .int part k), (Str.ofString "parts", .int parts k2), (Str.ofString "places", .int pl k3)]) ?k1 ?k2 ?k3 ?k4 ?k5 ?kA ?kF ?kK ?k6 ?k7 ?k8 ?k9 ?kB ?_ ?c2 ?c3 ?c4 ?c5; k_extra "m:E"; k_whole; intro g' L' h1' FG' F1 N1 B' X' T'; (try dsimp only); (try k_fold))
  dsimp only [List.reverse, List.reverseAux] at F1
  k_steps
  all_goals exact hret _ [] _ _ (by assumption) (by assumption) fresh0 ⟨rfl, _, congrArg (Value.int · _) (by rw [edge_val v1]; congr 2; omega)⟩

end
section
theorem min_of {M a b : Int} (h1 : M = a ∨ M = b) (h2 : M ≤ a ∧ M ≤ b) : M = min a b := by omega
theorem law_scale_t : ∀ {w : World} {news : Led} {ls lr : Addr} {S1 S2 R1 R2 pl : Int} {k1 k2 k3 k4 k5 : Tok} (_ : (ls, tup2 (.int S1 k1) (.int S2 k2)) ∈ news) (_ : (lr, tup2 (.int R1 k3) (.int R2 k4)) ∈ news) (_ : 0 < S1) (_ : S1 < 9223372036854775808) (_ : 0 < S2) (_ : S2 < 9223372036854775808) (_ : 0 ≤ pl) (_ : pl ≤ 12),
    Sp w none 3 (.ref 335) [.ref ls, .ref lr, .int pl k5] news (PInt (min (R1 * 10 ^ pl.toNat / S1) (R2 * 10 ^ pl.toNat / S2))) := by
  intro w news ls lr S1 S2 R1 R2 pl k1 k2 k3 k4 k5 ms mr h1 h2 h3 h4 h5 h6
  unfold Sp; k_fill; intro dp un gd cn cs a ccd cl outer A₀ base h₀ L m mean mg mb s Q E B F X N T hk hdp hu hret
  refine wpAny_call ?_
  k_dflt (refine' code_defC (binds := [(Str.ofString "size", .ref ls), (Str.ofString "room", .ref lr), (Str.ofString "places", .int pl k5)]) ?k1 ?k2 ?k3 ?k4 ?k5 ?kA ?kF ?kK ?k6 ?k7 ?k8 ?k9 ?kB ?kD ?_ ?c2 ?c3 ?c4; (case kA => exact rfl); (case kF => exact rfl); (case kK => assumption); (case k1 => k_asm); (case k2 => k_asm); (case k3 => k_asm); (case k4 => k_asm); (case k5 => k_asm); (case k6 => k_is); (case k7 => k_is); (case k8 => ktr_room); (case k9 => exact BindsTo.of_eq rfl); (case kB => exact rfl); (case kD => decide +kernel); (case c2 => exact rfl); (case c3 => exact rfl); (case c4 => exact rfl); k_whole; intro g' L' h1' tk1 cells1 FG' F1 N1 Y1 B' X' T' l1; k_cells Y1; (try simp only [List.cons_append, List.nil_append] at N1); (try dsimp only); (try k_fold))
  k_steps
  all_goals exact hret _ [] _ _ (by assumption) (newsDrop (by assumption) (by k_extra "m:sub")) fresh0 ⟨rfl, _, congrArg (Value.int · _) (min_of (by assumption) (by assumption))⟩

theorem law_scale_l : ∀ {w : World} {news : Led} {ls lr n : Nat} {S1 S2 R1 R2 pl : Int} {k1 k2 k3 k4 k5 : Tok} (_ : (ls, tup2 (.int S1 k1) (.int S2 k2)) ∈ news) (_ : (lr, listOf [Value.int R1 k3, .int R2 k4].toArray n) ∈ news) (_ : 0 < S1) (_ : S1 < 9223372036854775808) (_ : 0 < S2) (_ : S2 < 9223372036854775808) (_ : 0 ≤ pl) (_ : pl ≤ 12),
    Sp w none 3 (.ref 335) [.ref ls, .ref lr, .int pl k5] news (PInt (min (R1 * 10 ^ pl.toNat / S1) (R2 * 10 ^ pl.toNat / S2))) := by
  intro w news ls lr n S1 S2 R1 R2 pl k1 k2 k3 k4 k5 ms mr h1 h2 h3 h4 h5 h6
  unfold Sp; k_fill; intro dp un gd cn cs a ccd cl outer A₀ base h₀ L m mean mg mb s Q E B F X N T hk hdp hu hret
  refine wpAny_call ?_
  k_dflt (refine' code_defC (binds := [(Str.ofString "size", .ref ls), (Str.ofString "room", .ref lr), (Str.ofString "places", .int pl k5)]) ?k1 ?k2 ?k3 ?k4 ?k5 ?kA ?kF ?kK ?k6 ?k7 ?k8 ?k9 ?kB ?kD ?_ ?c2 ?c3 ?c4; (case kA => exact rfl); (case kF => exact rfl); (case kK => assumption); (case k1 => k_asm); (case k2 => k_asm); (case k3 => k_asm); (case k4 => k_asm); (case k5 => k_asm); (case k6 => k_is); (case k7 => k_is); (case k8 => ktr_room); (case k9 => exact BindsTo.of_eq rfl); (case kB => exact rfl); (case kD => decide +kernel); (case c2 => exact rfl); (case c3 => exact rfl); (case c4 => exact rfl); k_whole; intro g' L' h1' tk1 cells1 FG' F1 N1 Y1 B' X' T' l1; k_cells Y1; (try simp only [List.cons_append, List.nil_append] at N1); (try dsimp only); (try k_fold))
  k_steps
  all_goals exact hret _ [] _ _ (by assumption) (newsDrop (by assumption) (by k_extra "m:sub")) fresh0 ⟨rfl, _, congrArg (Value.int · _) (min_of (by assumption) (by assumption))⟩

end
section
abbrev penO (lc : Addr) (i v : Int) (ki kv : Tok) (np : Nat) : Obj := listOf [Value.ref lc, .int i ki, .int v kv].toArray np
section
variable {prog : Program} {w : World} {A : Around} {E : Value → Shared → Prop} {s : Shared} {h₀ : Heap} {L : Addr} {news : Led} {value slice : PySem.Expr} {l : Addr} {vs : List Value} {ns : List Int} {n : Nat} {k : Int} {u : Tok} {Q : Value → Shared → Prop}
theorem item_any (N : News h₀ L s.heap news) (hm : (l, listOf vs.toArray n) ∈ news) (hi : IntsAre vs ns) (h0 : 0 ≤ k) (h1 : k < (ns.length : Int)) (hhi : k < 2 ^ 63) (h : ∀ x t, Q (.int x t) s)
    (hs : subscripted slice false (.ref l) (.int k u) = operate [.ref l, .int k u] (getItem (.ref l) (.int k u))) :
    wpAny (model prog w) A (subscriptTail value slice (.ref l) (.int k u)) Q E s := by
  have hlt : k.toNat < ns.length := by omega
  obtain ⟨t, ht⟩ := hi.get k.toNat ns[k.toNat] (by simp [hlt])
  exact item_L N hm h0 hhi ht (h _ _) hs
end
section
variable {prog : Program} {w : World} {A : Around} {E : Value → Shared → Prop} {s : Shared} {h₀ : Heap} {L D : Addr} {m : Str → Option Value} {rest : Led} {vs : List Value} {n : Nat} {k x : Int} {t u : Tok} {Q : Unit → Shared → Prop}
theorem set_hd (F : Fr h₀ L s.heap m) (N : News h₀ L s.heap ((D, listOf vs.toArray n) :: rest)) (off : ∀ p ∈ rest, p.1 ≠ D) (h0 : 0 ≤ k) (h1 : k.toNat < vs.length) (hfit : k < 2 ^ 63)
    (h : ∀ h', Fr h₀ L h' m → News h₀ L h' ((D, listOf (vs.set k.toNat (.int x u)).toArray n) :: rest) → Q () { s with heap := h' }) :
    wpAny (model prog w) A (setItem (.ref D) (.int k t) (.int x u)) Q E s := by
  have z := N (D, listOf vs.toArray n) (.head _)
  have hs : vs.toArray.size = vs.length := List.size_toArray ..
  refine ki_setAt z.1 h0 hfit (by omega) (h _ (F.change (Heap.SameBut.update ..) z.2.1 z.2.2) (ki_turn (pre := []) _ N (fun _ h => nomatch h) off ?_ ?_))
  · show vs.toArray.setIfInBounds k.toNat (.int x u) = (vs.set k.toNat (.int x u)).toArray
    apply Array.toList_inj.mp
    simp
  · simp
end
section
variable {prog : Program} {w : World} {A : Around} {E : Value → Shared → Prop} {s : Shared} {h₀ : Heap} {L D lc : Addr} {m : Str → Option Value} {rest : Led} {i v : Int} {ki kv : Tok} {n : Nat} {x : Int} {t u : Tok} {Q : Unit → Shared → Prop}
theorem set_pen1 (F : Fr h₀ L s.heap m) (N : News h₀ L s.heap ((D, penO lc i v ki kv n) :: rest)) (off : ∀ p ∈ rest, p.1 ≠ D)
    (h : ∀ h' y, y = x → Fr h₀ L h' m → News h₀ L h' ((D, penO lc y v u kv n) :: rest) → Q () { s with heap := h' }) :
    wpAny (model prog w) A (setItem (.ref D) (.int 1 t) (.int x u)) Q E s := set_hd (k := 1) F N off (by decide) (by exact Nat.le_of_ble_eq_true rfl) (by decide) fun h' F' N' => h h' x rfl F' N'
theorem set_pen2 (F : Fr h₀ L s.heap m) (N : News h₀ L s.heap ((D, penO lc i v ki kv n) :: rest)) (off : ∀ p ∈ rest, p.1 ≠ D)
    (h : ∀ h' y, y = x → Fr h₀ L h' m → News h₀ L h' ((D, penO lc i y ki u n) :: rest) → Q () { s with heap := h' }) :
    wpAny (model prog w) A (setItem (.ref D) (.int 2 t) (.int x u)) Q E s := set_hd (k := 2) F N off (by decide) (by exact Nat.le_of_ble_eq_true rfl) (by decide) fun h' F' N' => h h' x rfl F' N'
end
set_option hygiene false in
local macro_rules | `(tactic| walk_at "setItem ref int") => return sq [tk "k_here", tr (tk "dsimp_only"), fi [sq [shw (ap "setItem" [tm "Value.ref _", ap "Value.int" [num 1, tm "_"], tm "Value.int _ _"]), df (sq [rf (tm "set_pen1 ?k1r43 ?k2r43 ?k3r43 ?_"), cl "k1r43 k_asm k2r43 k_asm k3r43 assumption", tk "k_whole"])], sq [shw (ap "setItem" [tm "Value.ref _", ap "Value.int" [num 2, tm "_"], tm "Value.int _ _"]), df (sq [rf (tm "set_pen2 ?k1r43 ?k2r43 ?k3r43 ?_"), cl "k1r43 k_asm k2r43 k_asm k3r43 assumption", tk "k_whole"])]], it "h9 y9 e9 F9 N9", tr (tk "dsimp_only")]
/-- a draw: the pen is turned, all else stands -/
def SpD (w : World) (hn : Option Value) (lp lc : Addr) (i v : Int) (ki kv : Tok) (np : Nat) (rest : Led) (many : Int) (km : Tok) : Prop :=
  ∀ (dp un : Nat) (gd : Option (List Code)) (cn : Str) (cs : Scope) (a : Addr) (ccd : Value) (cl : List (Str × Addr)) (outer : List Env) (A₀ : Around) (base h₀ : Heap) (L : Addr) (m : Str → Option Value)
    (mean : ExcName → Option Value) (mg mb : Str → Option Value) (s : Shared) (Q E : Value → Shared → Prop),
    Below A₀ base outer h₀ → Fr h₀ L s.heap m → (Mine.hd0.heap_1_1 w.params).In h₀ → News h₀ L s.heap ((lp, penO lc i v ki kv np) :: rest) → Top Mine.hd0.view_1_2 (looseW Mine.hd0.view_1_2 [Str.ofString "PaperError"]) mean mg mb h₀ → cs.kind = .function →
    dp + 3 < recursionLimit → un + 8 * 3 < cLine →
    (∀ d i' v' t ki' kv' np' h' tk', Fr h₀ L h' m → News h₀ L h' ((lp, penO lc i' v' ki' kv' np') :: rest) → 0 ≤ d → d < many → 0 ≤ i' → i' ≤ i + 1 → 0 ≤ v' → Q (.int d t) { s with heap := h', toks := tk' }) →
    wpAny (model PySem.Challenge.rw_pb0475_01.row.prog w) (ArH hn dp un gd cn cs L a ccd cl outer) (call (.ref 316) [.ref lp, .int many km]) Q E s
set_option hygiene false in
local macro_rules | `(tactic| walk_at "subscriptTail Subscript") => return sq [tk "k_here", df (sq [rf (tm "item_any ?Nr44 ?mr44 ?ir44 ?ar44 ?br44 ?cr44 ?_ ?sr44"), cl "Nr44 k_asm mr44 m:mem ir44 assumption ar44 assumption br44 assumption cr44 omega", cs "sr44" (wu (tk "rfl"))]), it "x9 t9", tr (tk "dsimp_only")]
theorem law_draw : ∀ {w : World} {hn : Option Value} {rest : Led} {lp lc : Addr} {vs : List Value} {ns : List Int} {nc np : Nat} {i v : Int} {ki kv : Tok} {many : Int} {km : Tok} (_ : (lc, listOf vs.toArray nc) ∈ rest) (_ : IntsAre vs ns) (_ : 0 < ns.length) (_ : ns.length ≤ 100)
    (_ : 0 ≤ i) (_ : i ≤ 1000) (_ : 0 ≤ v) (_ : 0 < many) (_ : many < 1000000) (_ : ∀ p ∈ rest, p.1 ≠ lp), SpD w hn lp lc i v ki kv np rest many km := by
  intro w hn rest lp lc vs ns nc np i v ki kv many km mc hi hne hl h1 h2 h3 h4 h5 off
  have hlen := hi.length
  have e1 := Int.emod_nonneg i (show (ns.length : Int) ≠ 0 by omega)
  have e2 := Int.emod_lt_of_pos i (show 0 < (ns.length : Int) by omega)
  unfold SpD; k_fill; intro dp un gd cn cs a ccd cl outer A₀ base h₀ L m mean mg mb s Q E B F X N T hk hdp hu hret
  refine wpAny_call ?_
  k_dflt (refine' code_def (binds := [(Str.ofString "pen", .ref lp), (Str.ofString "many", .int many km)]) ?k1 ?k2 ?k3 ?k4 ?k5 ?kA ?kF ?kK ?k6 ?k7 ?k8 ?k9 ?kB ?_ ?c2 ?c3 ?c4 ?c5; k_extra "m:E"; k_whole; intro g' L' h1' FG' F1 N1 B' X' T'; (try dsimp only); (try k_fold))
  dsimp only [List.reverse, List.reverseAux] at F1
  k_steps
  all_goals refine hret _ _ _ _ _ _ _ _ _ (by assumption) (by assumption) (Int.emod_nonneg _ (by omega)) (Int.emod_lt_of_pos _ h4) ?_ ?_ ?_
  all_goals first
    | omega
    | (subst_vars
       refine Int.ediv_nonneg ?_ (by omega)
       first
         | omega
         | (have hh := Int.mul_nonneg (Int.mul_nonneg (show (0 : Int) ≤ 7919 by decide) (show 0 ≤ i + 1 by omega)) (show 0 ≤ i + 1 by omega)
            split <;> omega)
         | (have hh := Int.mul_nonneg (Int.mul_nonneg (show (0 : Int) ≤ 7919 by decide) (show 0 ≤ i + 1 by omega)) (show 0 ≤ i + 1 by omega)
            omega))

end
section
section
variable {prog : Program} {w : World} {A : Around} {E : Value → Shared → Prop} {s : Shared} {h₀ : Heap} {L : Addr} {m : Str → Option Value} {env : Env}
theorem compRest_inv {elt : PySem.Expr} {x : Str} {scope : Scope} {cl : List (Str × Addr)} {S : Led → Prop} {P : Nat → Value → Prop} {Fin : List Value → Led → Prop} {n : Nat} (J : Nat → List Value → Led → Prop)
    (turn : ∀ i ys nw v I oI C oC D m₂ h tk (E' : Value → Shared → Prop), i < n → J i ys nw → P i v → LCg.NsObj oC m₂ → m₂ x = some v → Fr h₀ L h m → News h₀ L h ((I, oI) :: (C, oC) :: (D, LCg.lst ys) :: nw) → LCg.Off3 I C D nw → ((@Ne Nat I C) ∧ (@Ne Nat I D) ∧ (@Ne Nat C D)) →
      wpAny (model prog w) A (eval elt (compEnvC scope cl C env)) (LCg.CompEnd h₀ L m { s with heap := h, toks := tk } I oI C oC D (LCg.lst ys) S (fun y nw' => J (i + 1) (ys ++ [y]) nw')) E' { s with heap := h, toks := tk })
    (fin : ∀ ys nw, J n ys nw → Fin ys nw) : ∀ k i ys nw, i + k = n → J i ys nw → LCg.CompRest prog w A h₀ L m env elt x scope cl s S P Fin k i ys nw
  | 0, i, ys, nw, hk, hj => LCg.CompRest.zero (fin ys nw (by rw [Nat.add_zero] at hk; exact hk ▸ hj))
  | k + 1, i, ys, nw, hk, hj => LCg.CompRest.succ fun v I oI C oC D m₂ h tk E' hP ho hm F N off ne =>
    wpAny_mono (turn i ys nw v I oI C oC D m₂ h tk E' (by omega) hj hP ho hm F N off ne) (fun _ _ ⟨h', tk', news', e, F', N', off', hS, r⟩ => ⟨h', tk', news', e, F', N', off', hS, compRest_inv J turn fin k (i + 1) _ _ (by omega) r⟩) fun _ _ e => e
end
section
variable {prog : Program} {w : World} {A : Around} {E : Value → Shared → Prop} {s : Shared} {env : Env} {h₀ : Heap} {x : Str} {body : List Stmt} {Q : Flow → Shared → Prop}
theorem iter_rangeG {r : Addr} {a₀ b₀ st : Int} {t₀ u₀ v₀ : Tok} {n : Nat} {m₀ : Str → Option Value} {news : Led} (J : Nat → (Str → Option Value) → Led → Prop)
    (hh : A.handled = none) (hr : IsRange s.heap r a₀ b₀ st t₀ u₀ v₀) (hsmall : Builtin.Range.small a₀ b₀ st = true) (hn : Builtin.Range.rangeSize a₀ b₀ st = (n : Int)) (F : Fr h₀ env.locals s.heap m₀) (N : News h₀ env.locals s.heap news) (hJ : J 0 m₀ news)
    (turn : ∀ i t m₁ nx h tk own, i < n → OwnOff own (news.map (·.1)) → J i m₁ nx → Fr h₀ env.locals h (fun y => if y = x then some (.int (a₀ + (i : Int) * st) t) else m₁ y) → News h₀ env.locals h (nx ++ own) →
      wpAny (model prog w) A (execs body env) (InvPostN h₀ env.locals (J (i + 1)) own (news.map (·.1)) { s with heap := h, toks := tk } Q) E { s with heap := h, toks := tk })
    (done : ∀ m₁ nx h tk, J n m₁ nx → Fr h₀ env.locals h m₁ → News h₀ env.locals h nx → Q .next { s with heap := h, toks := tk }) :
    wpAny (model prog w) A (pyIter (.ref r)) (fun it s₂ => LoopAtV prog w A h₀ env x body Q E it s₂) E s := by
  refine wpAny_pyIter_range hr hsmall ?_
  refine loop_invN J (rangeG_walks hh a₀ st n) ?_ ?_ ?_ ?_ (by show IsRangeIter _ _ _ _ _; rw [hn]; simpa using Heap.get?_push_size _ rfl) (F.push _) (fun p hp => ⟨Heap.get?_push_of_some _ (N p hp).1, (N p hp).2⟩) hJ ?_ ?_
  · intro hm
    exact absurd F.ns.lt ((List.mem_singleton.mp hm) ▸ Nat.lt_irrefl _)
  · intro b hb
    rw [List.mem_singleton.mp hb]
    exact next_is_new F
  · intro p hp hI
    exact absurd (Heap.lt_size (N p hp).1) ((List.mem_singleton.mp hI) ▸ Nat.lt_irrefl _)
  · intro p hp hI
    exact absurd (Heap.lt_size (N p hp).1) ((List.mem_singleton.mp hI) ▸ Nat.lt_irrefl _)
  · rintro i v m₁ nx h tk own hi ⟨t, rfl⟩ _ hsep hj F' N'
    exact turn i t m₁ nx h tk own hi hsep hj F' N'
  · exact done
end
/-- a call that gives r and a new ledger, of which Post tells -/
def SpW (w : World) (D : Nat) (f : Value) (vs : List Value) (news : Led) (Post : Value → Led → Prop) : Prop :=
  ∀ (dp un : Nat) (gd : Option (List Code)) (cn : Str) (cs : Scope) (a : Addr) (ccd : Value) (cl : List (Str × Addr)) (outer : List Env) (A₀ : Around) (base h₀ : Heap) (L : Addr) (m : Str → Option Value)
    (mean : ExcName → Option Value) (mg mb : Str → Option Value) (s : Shared) (Q E : Value → Shared → Prop),
    Below A₀ base outer h₀ → Fr h₀ L s.heap m → (Mine.hd0.heap_1_1 w.params).In h₀ → News h₀ L s.heap news → Top Mine.hd0.view_1_2 (looseW Mine.hd0.view_1_2 [Str.ofString "PaperError"]) mean mg mb h₀ → cs.kind = .function →
    dp + D < recursionLimit → un + 8 * D < cLine →
    (∀ r nw h' tk', Fr h₀ L h' m → News h₀ L h' nw → (∀ p ∈ news, p ∈ nw) → Post r nw → Q r { s with heap := h', toks := tk' }) →
    wpAny (model PySem.Challenge.rw_pb0475_01.row.prog w) (ArH none dp un gd cn cs L a ccd cl outer) (call f vs) Q E s
/-- an element of a comprehension that is an int and makes nothing -/
def EltI (base : Led) (n : Int) (y : Value) (nw : Led) : Prop := nw = base ∧ ∃ t, y = .int n t
section
variable {prog : Program} {w : World} {A : Around} {E : Value → Shared → Prop} {s : Shared} {h₀ : Heap} {L : Addr} {m : Str → Option Value} {env : Env}
theorem ints_snoc {vs : List Value} {ns : List Int} {n : Int} {t : Tok} (h : IntsAre vs ns) : IntsAre (vs ++ [.int n t]) (ns ++ [n]) := IntsAre.append h (.cons n t .nil)
theorem compInts {elt : PySem.Expr} {x : Str} {scope : Scope} {cl : List (Str × Addr)} {S : Led → Prop} {Fin : List Value → Led → Prop} {vs : List Value} {ns : List Int} {base : Led} (hi : IntsAre vs ns) (f : Int → Int)
    (turn : ∀ k t ys I oI C oC D m₂ h tk (E' : Value → Shared → Prop), k ∈ ns → LCg.NsObj oC m₂ → m₂ x = some (.int k t) → Fr h₀ L h m → News h₀ L h ((I, oI) :: (C, oC) :: (D, LCg.lst ys) :: base) → LCg.Off3 I C D base → ((@Ne Nat I C) ∧ (@Ne Nat I D) ∧ (@Ne Nat C D)) →
      wpAny (model prog w) A (eval elt (compEnvC scope cl C env)) (LCg.CompEnd h₀ L m { s with heap := h, toks := tk } I oI C oC D (LCg.lst ys) S (EltI base (f k))) E' { s with heap := h, toks := tk })
    (fin : ∀ ys, IntsAre ys (ns.map f) → Fin ys base) : LCg.CompRest prog w A h₀ L m env elt x scope cl s S (fun i v => vs.toArray[i]? = some v) Fin vs.toArray.size 0 [] base := by
  have hl : vs.toArray.size = ns.length := by rw [List.size_toArray, hi.length]
  refine compRest_inv (n := ns.length) (fun i ys nw => nw = base ∧ IntsAre ys ((ns.take i).map f)) ?_ ?_ _ _ _ _ (by omega) ⟨rfl, by simpa using IntsAre.nil⟩
  · rintro i ys nw v I oI C oC D m₂ h tk E' hin ⟨rfl, hy⟩ hP ho hm F N off ne
    obtain ⟨k, t, rfl, hk⟩ := hi.at i v (by simpa using hP)
    refine wpAny_mono (turn k t ys I oI C oC D m₂ h tk E' (List.mem_of_getElem? hk) ho hm F N off ne) (fun _ _ q => ?_) fun _ _ e => e
    obtain ⟨h', tk', news', e, F', N', off', hS, rfl, t', rfl⟩ := q
    refine ⟨h', tk', _, e, F', N', off', hS, rfl, ?_⟩
    rw [List.take_add_one, hk, List.map_append]
    exact ints_snoc hy
  · rintro ys nw ⟨rfl, hy⟩
    rw [List.take_length] at hy
    exact fin ys hy
end
section
variable {prog : Program} {w : World} {A : Around} {E : Value → Shared → Prop} {s : Shared} {env : Env} {h₀ : Heap} {x : Str} {body : List Stmt} {Q : Flow → Shared → Prop}
/-- the end of a turn of a loop over a range that fills the list D -/
def FillE (D : Addr) (rest : Led) (x : Str) (m₀ : Str → Option Value) (ns : List Int) (m' : Str → Option Value) (nx : Led) : Prop := ∃ vs nn, nx = (D, listOf (List.toArray vs) nn) :: rest ∧ IntsAre vs ns ∧ ∀ z, z ≠ x → m' z = m₀ z
theorem iter_fill {r : Addr} {a₀ b₀ st : Int} {t₀ u₀ v₀ : Tok} {n n₀ : Nat} {m₀ : Str → Option Value} {D : Addr} {vs₀ : List Value} {rest : Led} (bk : Nat → List Int)
    (hh : A.handled = none) (hr : IsRange s.heap r a₀ b₀ st t₀ u₀ v₀) (hsmall : Builtin.Range.small a₀ b₀ st = true) (hn : Builtin.Range.rangeSize a₀ b₀ st = (n : Int)) (F : Fr h₀ env.locals s.heap m₀) (N : News h₀ env.locals s.heap ((D, listOf vs₀.toArray n₀) :: rest)) (hi : IntsAre vs₀ (bk 0))
    (turn : ∀ i t vs nn h tk own, i < n → OwnOff own (D :: rest.map (·.1)) → IntsAre vs (bk i) → Fr h₀ env.locals h (fun y => if y = x then some (.int (a₀ + (i : Int) * st) t) else m₀ y) → News h₀ env.locals h ((D, listOf vs.toArray nn) :: (rest ++ own)) →
      wpAny (model prog w) A (execs body env) (InvPostN h₀ env.locals (FillE D rest x m₀ (bk (i + 1))) own (D :: rest.map (·.1)) { s with heap := h, toks := tk } Q) E { s with heap := h, toks := tk })
    (done : ∀ (u : Str → Option Value) vs nn h tk, IntsAre vs (bk n) → Fr h₀ env.locals h (fun y => if y = x then u y else m₀ y) → News h₀ env.locals h ((D, listOf vs.toArray nn) :: rest) → Q .next { s with heap := h, toks := tk }) :
    wpAny (model prog w) A (pyIter (.ref r)) (fun it s₂ => LoopAtV prog w A h₀ env x body Q E it s₂) E s := by
  refine iter_rangeG (fun i m nx => FillE D rest x m₀ (bk i) m nx) hh hr hsmall hn F N ⟨vs₀, n₀, rfl, hi, fun _ _ => rfl⟩ ?_ ?_
  · rintro i t m₁ nx h tk own hin hoff ⟨vs, nn, rfl, hv, hm⟩ F₁ N₁
    rw [map_none hm] at F₁
    exact turn i t vs nn h tk own hin hoff hv F₁ N₁
  · rintro m₁ nx h tk ⟨vs, nn, rfl, hv, hm⟩ F₁ N₁
    refine done m₁ vs nn h tk hv ?_ N₁
    rw [done_none hm]; exact F₁
theorem ext_small {D b : Addr} {L : Addr} {vs ws : List Value} {n n2 : Nat} {m : Str → Option Value} {rest : Led} {Q : Value → Shared → Prop} (F : Fr h₀ L s.heap m) (N : News h₀ L s.heap ((b, listOf ws.toArray n2) :: (D, listOf vs.toArray n) :: rest)) (hne : ws.length ≠ 0) (hbd : b ≠ D) (off : ∀ p ∈ rest, p.1 ≠ D) (hz : vs.length + ws.length ≤ 10000)
    (h : ∀ h', Fr h₀ L h' m → News h₀ L h' ((b, listOf ws.toArray n2) :: (D, listOf (vs ++ ws).toArray (n + 1)) :: rest) → Q .none { s with heap := h' }) : wpAny (model prog w) A (call (.builtin "list.extend") [.ref D, .ref b]) Q E s := by
  refine kl_extend F N List.mem_cons_self (l := vs ++ ws) rfl hne (Upd.tail hbd (Upd.head ?_)) ?_ ?_ ?_ h
  · exact off
  · simp only [List.size_toArray, Builtin.List.listTooLong, sizeLine_eq, Bool.and_eq_true, decide_eq_true_eq]
    omega
  · simp only [sizeLine_eq]; omega
  · simp only [List.size_toArray, sizeLine_eq]; omega
end
theorem off_own {D : Addr} {rest own : Led} (h1 : AllLt D rest) (h2 : OwnOff own (D :: rest.map (·.1))) : ∀ p ∈ rest ++ own, p.1 ≠ D := fun p hp =>
  (List.mem_append.mp hp).elim (fun h => Nat.ne_of_lt (ktn_ltOf h1 p h)) (fun h => h2 p h _ List.mem_cons_self)
/-- a goal at which the walk is to stop -/
def Stop (P : Prop) : Prop := P
theorem Stop.mk {P : Prop} (h : Stop P) : P := h
/-- the values are lists of ints that the ledger holds -/
def Rows (nw : Led) : List Value → List (List Int) → Prop
  | [], [] => True
  | y :: ys, r :: rs => (∃ a vs n, y = .ref a ∧ (a, listOf (List.toArray vs) n) ∈ nw ∧ IntsAre vs r) ∧ Rows nw ys rs
  | _, _ => False
theorem Rows.mono {nw nw' : Led} (h : ∀ p ∈ nw, p ∈ nw') : ∀ {ys : List Value} {rs : List (List Int)}, Rows nw ys rs → Rows nw' ys rs
  | [], [], _ => trivial
  | _ :: _, _ :: _, ⟨⟨a, vs, n, e, m, i⟩, r⟩ => ⟨⟨a, vs, n, e, h _ m, i⟩, Rows.mono h r⟩
  | [], _ :: _, x => x.elim
  | _ :: _, [], x => x.elim
theorem Rows.snoc {nw : Led} {y : Value} {r : List Int} (h : ∃ a vs n, y = .ref a ∧ (a, listOf (List.toArray vs) n) ∈ nw ∧ IntsAre vs r) : ∀ {ys : List Value} {rs : List (List Int)}, Rows nw ys rs → Rows nw (ys ++ [y]) (rs ++ [r])
  | [], [], _ => ⟨h, trivial⟩
  | _ :: _, _ :: _, ⟨x, q⟩ => ⟨x, Rows.snoc h q⟩
  | [], _ :: _, x => x.elim
  | _ :: _, [], x => x.elim
theorem Rows.len {nw : Led} : ∀ {ys : List Value} {rs : List (List Int)}, Rows nw ys rs → ys.length = rs.length
  | [], [], _ => rfl
  | _ :: _, _ :: _, ⟨_, q⟩ => congrArg (· + 1) (Rows.len q)
  | [], _ :: _, x => x.elim
  | _ :: _, [], x => x.elim
theorem Rows.get {nw : Led} : ∀ {ys : List Value} {rs : List (List Int)}, Rows nw ys rs → ∀ {i : Nat} {r : List Int}, rs[i]? = some r → ∃ a vs n, ys[i]? = some (.ref a) ∧ (a, listOf (List.toArray vs) n) ∈ nw ∧ IntsAre vs r
  | _ :: _, _ :: _, ⟨⟨a, vs, n, e, m, i⟩, _⟩, 0, _, h => by cases h; exact ⟨a, vs, n, congrArg some e, m, i⟩
  | _ :: _, _ :: _, ⟨_, q⟩, i + 1, _, h => Rows.get q (i := i) (by simpa using h)
  | [], [], _, _, _, h => by cases h
  | [], _ :: _, x, _, _, _ => x.elim
  | _ :: _, [], x, _, _, _ => x.elim
def EltR (nw : Led) (r : List Int) (y : Value) (nw' : Led) : Prop := (∀ p ∈ nw, p ∈ nw') ∧ ∃ a vs n, y = .ref a ∧ (a, listOf (List.toArray vs) n) ∈ nw' ∧ IntsAre vs r
section
variable {prog : Program} {w : World} {A : Around} {E : Value → Shared → Prop} {s : Shared} {h₀ : Heap} {L : Addr} {m : Str → Option Value} {env : Env}
theorem compRows {elt : PySem.Expr} {x : Str} {scope : Scope} {cl : List (Str × Addr)} {S : Led → Prop} {P : Nat → Value → Prop} {Fin : List Value → Led → Prop} {n : Nat} {base : Led} (rows : Nat → List Int)
    (turn : ∀ i v ys nw I oI C oC D m₂ h tk (E' : Value → Shared → Prop), i < n → P i v → (∀ p ∈ base, p ∈ nw) → LCg.NsObj oC m₂ → m₂ x = some v → Fr h₀ L h m → News h₀ L h ((I, oI) :: (C, oC) :: (D, LCg.lst ys) :: nw) → LCg.Off3 I C D nw → ((@Ne Nat I C) ∧ (@Ne Nat I D) ∧ (@Ne Nat C D)) →
      wpAny (model prog w) A (eval elt (compEnvC scope cl C env)) (LCg.CompEnd h₀ L m { s with heap := h, toks := tk } I oI C oC D (LCg.lst ys) S (EltR nw (rows i))) E' { s with heap := h, toks := tk })
    (fin : ∀ ys nw, (∀ p ∈ base, p ∈ nw) → Rows nw ys ((List.range n).map rows) → Fin ys nw) : LCg.CompRest prog w A h₀ L m env elt x scope cl s S P Fin n 0 [] base := by
  refine compRest_inv (n := n) (fun i ys nw => (∀ p ∈ base, p ∈ nw) ∧ Rows nw ys ((List.range i).map rows)) ?_ ?_ _ _ _ _ (by omega) ⟨fun _ h => h, trivial⟩
  · rintro i ys nw v I oI C oC D m₂ h tk E' hin ⟨hb, hy⟩ hP ho hm F N off ne
    refine wpAny_mono (turn i v ys nw I oI C oC D m₂ h tk E' hin hP hb ho hm F N off ne) (fun _ _ q => ?_) fun _ _ e => e
    obtain ⟨h', tk', news', e, F', N', off', hS, hsub, hrow⟩ := q
    refine ⟨h', tk', _, e, F', N', off', hS, fun p hp => hsub p (hb p hp), ?_⟩
    rw [List.range_succ, List.map_append]
    exact Rows.snoc hrow (hy.mono hsub)
  · rintro ys nw ⟨hb, hy⟩
    exact fin ys nw hb hy
end
theorem range_zero {n c : Int} (hn : 0 ≤ n) (hn2 : n ≤ 1000000) (hc : 0 < c) (hc2 : c ≤ 1000000) : Builtin.Range.small 0 n c = true ∧ Builtin.Range.rangeSize 0 n c = (((n + c - 1) / c).toNat : Int) := by
  have e : Builtin.Range.rangeSize 0 n c = (n + c - 1) / c := by
    unfold Builtin.Range.rangeSize
    rw [if_pos (show c > 0 from hc)]
    split
    · have : n + c - 1 = (n - 0 - 1) + 1 * c := by omega
      rw [this, Int.add_mul_ediv_right _ _ (by omega)]
    · have : n = 0 := by omega
      subst this
      rw [Int.ediv_eq_zero_of_lt] <;> omega
  have h0 : 0 ≤ (n + c - 1) / c := Int.ediv_nonneg (by omega) (by omega)
  have h1 : (n + c - 1) / c ≤ n + c - 1 := Int.ediv_le_self _ (by omega)
  refine ⟨?_, by rw [e]; omega⟩
  unfold Builtin.Range.small
  rw [e]
  simp only [Builtin.Range.rangeFitsLong, Bool.and_eq_true, Bool.or_eq_true, decide_eq_true_eq, beq_iff_eq, show c > 0 from hc, if_true]
  generalize (n + c - 1) / c = q at *
  omega
section
variable {h₀ : Heap} {L : Addr} {m : Str → Option Value}
theorem compEnd_row {s₁ : Shared} {I C D a : Addr} {oI oC oD : Obj} {S : Led → Prop} {nw all : Led} {ws : List Value} {c : Nat} {r : List Int} {h' : Heap} {tk : Nat} (F : Fr h₀ L h' m) (N : News h₀ L h' all)
    (hm : ∀ p ∈ (a, listOf ws.toArray c) :: (I, oI) :: (C, oC) :: (D, oD) :: nw, p ∈ all) (l : I < a ∧ C < a ∧ D < a) (off : LCg.Off3 I C D nw) (hS : S ((a, listOf ws.toArray c) :: nw)) (hi : IntsAre ws r) :
    LCg.CompEnd h₀ L m s₁ I oI C oC D oD S (EltR nw r) (.ref a) { s₁ with heap := h', toks := tk } :=
  LCg.CompEnd.intro F N ((a, listOf ws.toArray c) :: nw) (fun p hp => by
    rcases List.mem_cons.mp hp with rfl | hp
    · exact hm _ (List.mem_cons_of_mem _ List.mem_cons_self)
    rcases List.mem_cons.mp hp with rfl | hp
    · exact hm _ (List.mem_cons_of_mem _ (List.mem_cons_of_mem _ List.mem_cons_self))
    rcases List.mem_cons.mp hp with rfl | hp
    · exact hm _ (List.mem_cons_of_mem _ (List.mem_cons_of_mem _ (List.mem_cons_of_mem _ List.mem_cons_self)))
    rcases List.mem_cons.mp hp with rfl | hp
    · exact hm _ List.mem_cons_self
    · exact hm _ (List.mem_cons_of_mem _ (List.mem_cons_of_mem _ (List.mem_cons_of_mem _ (List.mem_cons_of_mem _ hp)))))
    ⟨⟨Nat.ne_of_gt l.1, Nat.ne_of_gt l.2.1, Nat.ne_of_gt l.2.2⟩, off⟩ hS ⟨fun p hp => List.mem_cons_of_mem _ hp, a, ws, c, rfl, List.mem_cons_self, hi⟩
end

end
section
/-- a ledger within another; the greater one is kept as a variable -/
structure Sub (A B : Led) : Prop where
  up : ∀ p ∈ A, p ∈ B
theorem Sub.refl {A : Led} : Sub A A := ⟨fun _ h => h⟩
theorem Sub.tl {A B : Led} {a : Addr × Obj} (h : Sub (a :: A) B) : Sub A B := ⟨fun p hp => h.up p (List.mem_cons_of_mem _ hp)⟩
theorem Sub.hd {A B : Led} {a : Addr × Obj} (h : Sub (a :: A) B) : a ∈ B := h.up a List.mem_cons_self
theorem subUp {l A B : Led} (h : Sub A B) (k : ∀ p ∈ l, p ∈ A) : ∀ p ∈ l, p ∈ B := fun p hp => h.up p (k p hp)
/-- a decimal of the ledger, its fields unsaid -/
structure DecAt (w : World) (R : Led) (a : Addr) (n : Nat) (X : Int) : Prop where
  ex : ∃ d i1 i2 i3 i4 t p, (a, instObj 155 d) ∈ R ∧ (d, decD w t p i1 i2 i3 i4) ∈ R ∧ DV t p n X
theorem DecAt.mk' {w : World} {R : Led} {a d : Addr} {i1 i2 i3 i4 : Nat} {t p : Int} {n : Nat} {X : Int} (h1 : (a, instObj 155 d) ∈ R) (h2 : (d, decD w t p i1 i2 i3 i4) ∈ R) (h3 : DV t p n X) : DecAt w R a n X := ⟨d, i1, i2, i3, i4, t, p, h1, h2, h3⟩
theorem DecAt.mono {w : World} {R S : Led} {a : Addr} {n : Nat} {X : Int} (h : DecAt w R a n X) (k : ∀ p ∈ R, p ∈ S) : DecAt w S a n X := by
  obtain ⟨d, i1, i2, i3, i4, t, p, h1, h2, h3⟩ := h.ex
  exact .mk' (k _ h1) (k _ h2) h3
theorem DecAt.up {w : World} {R S : Led} {a : Addr} {n : Nat} {X : Int} (k : Sub R S) (h : DecAt w R a n X) : DecAt w S a n X := h.mono k.up
theorem DecAt.cons {w : World} {R : Led} {q : Addr × Obj} {a : Addr} {n : Nat} {X : Int} (h : DecAt w R a n X) : DecAt w (q :: R) a n X := h.mono fun _ => List.mem_cons_of_mem _
section
variable {w : World} {hn : Option Value} {D : Nat} {f : Value} {vs : List Value} {news : Led}
  {dp un : Nat} {gd : Option (List Code)} {cn : Str} {cs : Scope} {a : Addr} {ccd : Value} {cl : List (Str × Addr)} {outer : List Env} {A₀ : Around} {base h₀ : Heap} {L : Addr} {m : Str → Option Value}
    {mean : ExcName → Option Value} {mg mb : Str → Option Value} {s : Shared} {Q E : Value → Shared → Prop} {n : Nat}
theorem use_matO {nr nu : Nat} {Z R U : Int} (N : News h₀ L s.heap news) (C : Sp w hn D f vs news (PMat w n nr nu Z R U))
    (B : Below A₀ base outer h₀) (F : Fr h₀ L s.heap m) (X : (Mine.hd0.heap_1_1 w.params).In h₀) (T : Top Mine.hd0.view_1_2 (looseW Mine.hd0.view_1_2 [Str.ofString "PaperError"]) mean mg mb h₀) (hk : cs.kind = .function) (hd : dp + D < recursionLimit) (hu : un + 8 * D < cLine)
    (ret : ∀ M dM m1 m2 m3 m4 m5 m6 a1 a2 a3 a4 a5 S h' tk', Fr h₀ L h' m → News h₀ L h' S → Sub news S → (M, instObj 260 dM) ∈ S → (dM, matD w (.ref a3) (.ref a1) (.ref a2) (.ref a3) (.ref a4) (.ref a5) m1 m2 m3 m4 m5 m6) ∈ S → DecAt w S a1 0 0 → DecAt w S a2 0 0 → DecAt w S a3 n Z → DecAt w S a4 nr R → DecAt w S a5 nu U → Q (.ref M) { s with heap := h', toks := tk' }) :
    wpAny (model PySem.Challenge.rw_pb0475_01.row.prog w) (ArH hn dp un gd cn cs L a ccd cl outer) (call f vs) Q E s := by
  refine sp_use B F X N T hk C hd hu (fun r nn h' tk' F' N' l z9 => ?_)
  obtain ⟨M, dM, m1, m2, m3, m4, m5, m6, a1, d1, i1, j1, k1, l1, a2, d2, i2, j2, k2, l2, a3, d3, i3, j3, k3, l3, a4, d4, i4, j4, k4, l4, a5, d5, i5, j5, k5, l5, t1, p1, t2, p2, t3, p3, t4, p4, t5, p5, rfl, hnn, h1, h2, h3, h4, h5⟩ := z9
  have u : Sub nn (nn ++ news) := ⟨fun p hp => List.mem_append_left _ hp⟩
  have v : Sub news (nn ++ news) := ⟨fun p hp => List.mem_append_right _ hp⟩
  generalize nn ++ news = S at N' u v
  subst hnn
  exact ret M dM m1 m2 m3 m4 m5 m6 a1 a2 a3 a4 a5 S h' tk' F' N' v u.hd u.tl.hd (.mk' u.tl.tl.hd u.tl.tl.tl.hd h1) (.mk' u.tl.tl.tl.tl.hd u.tl.tl.tl.tl.tl.hd h2) (.mk' u.tl.tl.tl.tl.tl.tl.hd u.tl.tl.tl.tl.tl.tl.tl.hd h3)
    (.mk' u.tl.tl.tl.tl.tl.tl.tl.tl.hd u.tl.tl.tl.tl.tl.tl.tl.tl.tl.hd h4) (.mk' u.tl.tl.tl.tl.tl.tl.tl.tl.tl.tl.hd u.tl.tl.tl.tl.tl.tl.tl.tl.tl.tl.tl.hd h5)
theorem use_boxO {A1 B1 C1 D1 : Int} (N : News h₀ L s.heap news) (C : Sp w hn D f vs news (PBox w n A1 B1 C1 D1))
    (B : Below A₀ base outer h₀) (F : Fr h₀ L s.heap m) (X : (Mine.hd0.heap_1_1 w.params).In h₀) (T : Top Mine.hd0.view_1_2 (looseW Mine.hd0.view_1_2 [Str.ofString "PaperError"]) mean mg mb h₀) (hk : cs.kind = .function) (hd : dp + D < recursionLimit) (hu : un + 8 * D < cLine)
    (ret : ∀ q a1 a2 a3 a4 S h' tk', Fr h₀ L h' m → News h₀ L h' S → Sub news S → (q, tup4 (.ref a1) (.ref a2) (.ref a3) (.ref a4)) ∈ S → DecAt w S a1 n A1 → DecAt w S a2 n B1 → DecAt w S a3 n C1 → DecAt w S a4 n D1 → Q (.ref q) { s with heap := h', toks := tk' }) :
    wpAny (model PySem.Challenge.rw_pb0475_01.row.prog w) (ArH hn dp un gd cn cs L a ccd cl outer) (call f vs) Q E s := by
  refine sp_use B F X N T hk C hd hu (fun r nn h' tk' F' N' l z9 => ?_)
  obtain ⟨q, x, y, z, e, rfl, hnn, h1, h2, h3, h4⟩ := z9
  have u : Sub nn (nn ++ news) := ⟨fun p hp => List.mem_append_left _ hp⟩
  have v : Sub news (nn ++ news) := ⟨fun p hp => List.mem_append_right _ hp⟩
  generalize nn ++ news = S at N' u v
  subst hnn
  exact ret q x.a y.a z.a e.a S h' tk' F' N' v u.hd (.mk' u.tl.hd u.tl.tl.hd h1) (.mk' u.tl.tl.tl.hd u.tl.tl.tl.tl.hd h2) (.mk' u.tl.tl.tl.tl.tl.hd u.tl.tl.tl.tl.tl.tl.hd h3)
    (.mk' u.tl.tl.tl.tl.tl.tl.tl.hd u.tl.tl.tl.tl.tl.tl.tl.tl.hd h4)
end
theorem law_largeO {w : World} {news : Led} {a1 : Nat} {X1 : Int} {n1 : Nat} (h : DecAt w news a1 n1 X1) : Sp w none 3 (.ref 323) [.ref a1] news (PInt X1) := by
  obtain ⟨d, i1, i2, i3, i4, t, p, h1, h2, h3⟩ := h.ex
  exact law_large h1 h2 h3
theorem hideP {M : Model} {A : Around} {c : Sem Flow} {Q : Flow → Shared → Prop} {E : Value → Shared → Prop} {s : Shared} (h : ∀ P : Flow → Shared → Prop, (∀ f s₂, Q f s₂ → P f s₂) → wpAny M A c P E s) : wpAny M A c Q E s := h Q fun _ _ z => z
/-- the values are decimals of the ledger -/
def Decs (w : World) (R : Led) : List Value → List Int → Prop
  | [], [] => True
  | v :: vs, X :: Xs => (∃ a n, v = .ref a ∧ DecAt w R a n X) ∧ Decs w R vs Xs
  | _, _ => False
theorem Decs.len {w : World} {R : Led} : ∀ {vs : List Value} {Xs : List Int}, Decs w R vs Xs → vs.length = Xs.length
  | [], [], _ => rfl
  | _ :: _, _ :: _, h => congrArg (· + 1) (Decs.len h.2)
  | [], _ :: _, h => h.elim
  | _ :: _, [], h => h.elim
theorem Decs.get {w : World} {R : Led} : ∀ {vs : List Value} {Xs : List Int}, Decs w R vs Xs → ∀ {i : Nat} {X : Int}, Xs[i]? = some X → ∃ a n, vs[i]? = some (.ref a) ∧ DecAt w R a n X
  | _ :: _, _ :: _, h, 0, _, e => by cases e; obtain ⟨a, n, e, d⟩ := h.1; exact ⟨a, n, congrArg some e, d⟩
  | _ :: _, _ :: _, h, i + 1, _, e => Decs.get h.2 (i := i) (by simpa using e)
  | [], [], _, _, _, e => by cases e
  | [], _ :: _, h, _, _, _ => h.elim
  | _ :: _, [], h, _, _, _ => h.elim
section
variable {prog : Program} {w : World} {A : Around} {E : Value → Shared → Prop} {s : Shared} {h₀ : Heap} {L : Addr} {m : Str → Option Value} {env : Env}
theorem compDecs {elt : PySem.Expr} {x : Str} {scope : Scope} {cl : List (Str × Addr)} {S : Led → Prop} {Fin : List Value → Led → Prop} {vs : List Value} {Xs : List Int} {base : Led} (hD : Decs w base vs Xs)
    (turn : ∀ a n X ys I oI C oC D m₂ h tk (E' : Value → Shared → Prop), DecAt w base a n X → LCg.NsObj oC m₂ → m₂ x = some (.ref a) → Fr h₀ L h m → News h₀ L h ((I, oI) :: (C, oC) :: (D, LCg.lst ys) :: base) → LCg.Off3 I C D base → ((@Ne Nat I C) ∧ (@Ne Nat I D) ∧ (@Ne Nat C D)) →
      wpAny (model prog w) A (eval elt (compEnvC scope cl C env)) (LCg.CompEnd h₀ L m { s with heap := h, toks := tk } I oI C oC D (LCg.lst ys) S (EltI base X)) E' { s with heap := h, toks := tk })
    (fin : ∀ ys, IntsAre ys Xs → Fin ys base) : LCg.CompRest prog w A h₀ L m env elt x scope cl s S (fun i v => vs.toArray[i]? = some v) Fin vs.toArray.size 0 [] base := by
  have hl : vs.toArray.size = Xs.length := by rw [List.size_toArray, hD.len]
  refine compRest_inv (n := Xs.length) (fun i ys nw => nw = base ∧ IntsAre ys (Xs.take i)) ?_ ?_ _ _ _ _ (by omega) ⟨rfl, by simpa using IntsAre.nil⟩
  · rintro i ys nw v I oI C oC D m₂ h tk E' hin ⟨rfl, hy⟩ hP ho hm F N off ne
    have hr : Xs[i]? = some Xs[i] := List.getElem?_eq_getElem hin
    obtain ⟨a, n, e1, e2⟩ := hD.get hr
    have hv : vs[i]? = some v := by simpa using hP
    rw [e1] at hv
    cases hv
    refine wpAny_mono (turn a n Xs[i] ys I oI C oC D m₂ h tk E' e2 ho hm F N off ne) (fun _ _ q => ?_) fun _ _ e => e
    obtain ⟨h', tk', news', e, F', N', off', hS, rfl, t', rfl⟩ := q
    refine ⟨h', tk', _, e, F', N', off', hS, rfl, ?_⟩
    rw [List.take_add_one, hr]
    exact ints_snoc hy
  · rintro ys nw ⟨rfl, hy⟩
    rw [List.take_length] at hy
    exact fin ys hy
theorem compDecs2 {elt : PySem.Expr} {x : Str} {scope : Scope} {cl : List (Str × Addr)} {S : Led → Prop} {Fin : List Value → Led → Prop} {a1 a2 n1 n2 : Nat} {X1 X2 : Int} {base : Led} (d1 : DecAt w base a1 n1 X1) (d2 : DecAt w base a2 n2 X2)
    (turn : ∀ a n X ys I oI C oC D m₂ h tk (E' : Value → Shared → Prop), DecAt w base a n X → LCg.NsObj oC m₂ → m₂ x = some (.ref a) → Fr h₀ L h m → News h₀ L h ((I, oI) :: (C, oC) :: (D, LCg.lst ys) :: base) → LCg.Off3 I C D base → ((@Ne Nat I C) ∧ (@Ne Nat I D) ∧ (@Ne Nat C D)) →
      wpAny (model prog w) A (eval elt (compEnvC scope cl C env)) (LCg.CompEnd h₀ L m { s with heap := h, toks := tk } I oI C oC D (LCg.lst ys) S (EltI base X)) E' { s with heap := h, toks := tk })
    (fin : ∀ t1 t2, Fin [.int X1 t1, .int X2 t2] base) : LCg.CompRest prog w A h₀ L m env elt x scope cl s S (fun i v => [Value.ref a1, .ref a2].toArray[i]? = some v) Fin 2 0 [] base :=
  compDecs (vs := [.ref a1, .ref a2]) (Xs := [X1, X2]) ⟨⟨_, _, rfl, d1⟩, ⟨_, _, rfl, d2⟩, trivial⟩ turn fun ys h => by
    cases h with | cons _ t1 h => cases h with | cons _ t2 h => cases h with | nil => exact fin t1 t2
theorem compDecs4 {elt : PySem.Expr} {x : Str} {scope : Scope} {cl : List (Str × Addr)} {S : Led → Prop} {Fin : List Value → Led → Prop} {a1 a2 a3 a4 n1 n2 n3 n4 : Nat} {X1 X2 X3 X4 : Int} {base : Led} (d1 : DecAt w base a1 n1 X1) (d2 : DecAt w base a2 n2 X2) (d3 : DecAt w base a3 n3 X3) (d4 : DecAt w base a4 n4 X4)
    (turn : ∀ a n X ys I oI C oC D m₂ h tk (E' : Value → Shared → Prop), DecAt w base a n X → LCg.NsObj oC m₂ → m₂ x = some (.ref a) → Fr h₀ L h m → News h₀ L h ((I, oI) :: (C, oC) :: (D, LCg.lst ys) :: base) → LCg.Off3 I C D base → ((@Ne Nat I C) ∧ (@Ne Nat I D) ∧ (@Ne Nat C D)) →
      wpAny (model prog w) A (eval elt (compEnvC scope cl C env)) (LCg.CompEnd h₀ L m { s with heap := h, toks := tk } I oI C oC D (LCg.lst ys) S (EltI base X)) E' { s with heap := h, toks := tk })
    (fin : ∀ t1 t2 t3 t4, Fin [.int X1 t1, .int X2 t2, .int X3 t3, .int X4 t4] base) : LCg.CompRest prog w A h₀ L m env elt x scope cl s S (fun i v => [Value.ref a1, .ref a2, .ref a3, .ref a4].toArray[i]? = some v) Fin 4 0 [] base :=
  compDecs (vs := [.ref a1, .ref a2, .ref a3, .ref a4]) (Xs := [X1, X2, X3, X4]) ⟨⟨_, _, rfl, d1⟩, ⟨_, _, rfl, d2⟩, ⟨_, _, rfl, d3⟩, ⟨_, _, rfl, d4⟩, trivial⟩ turn fun ys h => by
    cases h with | cons _ t1 h => cases h with | cons _ t2 h => cases h with | cons _ t3 h => cases h with | cons _ t4 h => cases h with | nil => exact fin t1 t2 t3 t4
end

end
section
def edgeV (X part parts : Int) (k : Nat) : Int := rqv (X * part) (parts * 10 ^ 12) k * 10 ^ (12 - k)
def scaleV (R1 R2 S1 S2 : Int) (k : Nat) : Int := min (R1 * 10 ^ k / S1) (R2 * 10 ^ k / S2)
theorem gap_core {A B U V : Int} (h : B - A - U = 2 * V) (h0 : U ≤ B - A) : A + (B - A - U) * (5 * 10 ^ 11) / 10 ^ 12 - A = B - (A + (B - A - U) * (5 * 10 ^ 11) / 10 ^ 12) - U ∧ 0 ≤ A + (B - A - U) * (5 * 10 ^ 11) / 10 ^ 12 - A := by
  have e : (B - A - U) * (5 * 10 ^ 11) / 10 ^ 12 = V := by
    rw [h, show (5 * 10 ^ 11 : Int) = 500000000000 from rfl, show (10 : Int) ^ 12 = 1000000000000 from rfl]
    clear h h0
    omega
  rw [e]
  clear e
  omega
theorem gap_eq {A B S sc A' B' S' : Int} {k : Nat} (hk : k ≤ 4) (hA : A = 100000000 * A') (hB : B = 100000000 * B') (hS : S = 10000000000 * S') (hp : 0 < S) (hsc : sc ≤ (B - A) * 10 ^ k / S) :
    ctr A (B - A) S (sc * 10 ^ (12 - k)) - A = B - ctr A (B - A) S (sc * 10 ^ (12 - k)) - S * sc / 10 ^ k ∧ 0 ≤ ctr A (B - A) S (sc * 10 ^ (12 - k)) - A := by
  have h1 : sc * S ≤ (B - A) * 10 ^ k := Int.le_trans (Int.mul_le_mul_of_nonneg_right hsc (Int.le_of_lt hp)) (Int.ediv_mul_le _ (Int.ne_of_gt hp))
  have e0 : S * (sc * 10 ^ (12 - k)) / 10 ^ 12 = S * sc / 10 ^ k := by
    have e1 : (10 : Int) ^ 12 = 10 ^ (12 - k) * 10 ^ k := by rw [← Int.pow_add, Nat.sub_add_cancel (Nat.le_trans hk (by decide))]
    have e2 : S * (sc * 10 ^ (12 - k)) = 10 ^ (12 - k) * (S * sc) := by rw [← Int.mul_assoc, Int.mul_comm]
    rw [e1, e2, Int.mul_ediv_mul_of_pos _ _ (p10_pos _)]
  unfold ctr
  rw [e0]
  have h2 : S * sc / 10 ^ k ≤ B - A := Int.ediv_le_of_le_mul (p10_pos k) (by rw [Int.mul_comm S]; exact h1)
  have e7 : S * sc / 10 ^ k = 2 * (5 * (10 ^ (9 - k) * (S' * sc))) := by
    have e5 : (10000000000 : Int) = 10 ^ k * (10 * 10 ^ (9 - k)) := by
      rw [Int.mul_comm 10, ← Int.pow_succ, ← Int.pow_add, show k + (9 - k + 1) = 10 by omega]; rfl
    rw [hS, e5, Int.mul_assoc, Int.mul_assoc, Int.mul_ediv_cancel_left _ (p10_ne k), Int.mul_assoc]
    generalize 10 ^ (9 - k) * (S' * sc) = z
    omega
  rw [e7] at h2 ⊢
  refine gap_core (V := 50000000 * (B' - A') - 5 * (10 ^ (9 - k) * (S' * sc))) ?_ h2
  generalize 10 ^ (9 - k) * (S' * sc) = z
  rw [hA, hB]
  clear h1 e0 h2 e7 hsc hp hS hA hB hk
  omega
theorem edge_div {X part parts : Int} {k : Nat} (hk : k ≤ 4) : ∃ A', edgeV X part parts k = 100000000 * A' := by
  refine ⟨rqv (X * part) (parts * 10 ^ 12) k * 10 ^ (4 - k), ?_⟩
  unfold edgeV
  have e : 12 - k = (4 - k) + 8 := by omega
  rw [e, Int.pow_add, ← Int.mul_assoc, Int.mul_comm]
  rfl
theorem dv_div {t p X : Int} {n : Nat} (v : DV t p n X) (hn : n ≤ 2) : ∃ S', X = 10000000000 * S' := by
  obtain ⟨a1, a2, a3, a4⟩ := v
  refine ⟨t * 10 ^ (2 - p.toNat), ?_⟩
  have e : 12 - p.toNat = (2 - p.toNat) + 10 := by omega
  rw [← a4, e, Int.pow_add, ← Int.mul_assoc, Int.mul_comm]
  rfl
theorem gap1 {X x1 y1 Y x2 y2 S1 S2 R2 : Int} {k : Nat} (hk : k ≤ 4) (hS0 : ∃ S', S1 = 10000000000 * S') (hp : 0 < S1) :
    ctr (edgeV X x1 y1 k) (edgeV Y x2 y2 k - edgeV X x1 y1 k) S1 (zed (edgeV Y x2 y2 k - edgeV X x1 y1 k) R2 S1 S2 k) - edgeV X x1 y1 k
      = edgeV Y x2 y2 k - ctr (edgeV X x1 y1 k) (edgeV Y x2 y2 k - edgeV X x1 y1 k) S1 (zed (edgeV Y x2 y2 k - edgeV X x1 y1 k) R2 S1 S2 k) - S1 * scaleV (edgeV Y x2 y2 k - edgeV X x1 y1 k) R2 S1 S2 k / 10 ^ k
      ∧ 0 ≤ ctr (edgeV X x1 y1 k) (edgeV Y x2 y2 k - edgeV X x1 y1 k) S1 (zed (edgeV Y x2 y2 k - edgeV X x1 y1 k) R2 S1 S2 k) - edgeV X x1 y1 k := by
  obtain ⟨A', hA⟩ := edge_div (X := X) (part := x1) (parts := y1) hk
  obtain ⟨B', hB⟩ := edge_div (X := Y) (part := x2) (parts := y2) hk
  obtain ⟨S', hS⟩ := hS0
  exact gap_eq hk hA hB hS hp (Int.min_le_left _ _)
theorem gap2 {X x1 y1 Y x2 y2 S1 S2 R1 : Int} {k : Nat} (hk : k ≤ 4) (hS0 : ∃ S', S2 = 10000000000 * S') (hp : 0 < S2) :
    ctr (edgeV X x1 y1 k) (edgeV Y x2 y2 k - edgeV X x1 y1 k) S2 (zed R1 (edgeV Y x2 y2 k - edgeV X x1 y1 k) S1 S2 k) - edgeV X x1 y1 k
      = edgeV Y x2 y2 k - ctr (edgeV X x1 y1 k) (edgeV Y x2 y2 k - edgeV X x1 y1 k) S2 (zed R1 (edgeV Y x2 y2 k - edgeV X x1 y1 k) S1 S2 k) - S2 * scaleV R1 (edgeV Y x2 y2 k - edgeV X x1 y1 k) S1 S2 k / 10 ^ k
      ∧ 0 ≤ ctr (edgeV X x1 y1 k) (edgeV Y x2 y2 k - edgeV X x1 y1 k) S2 (zed R1 (edgeV Y x2 y2 k - edgeV X x1 y1 k) S1 S2 k) - edgeV X x1 y1 k := by
  obtain ⟨A', hA⟩ := edge_div (X := X) (part := x1) (parts := y1) hk
  obtain ⟨B', hB⟩ := edge_div (X := Y) (part := x2) (parts := y2) hk
  obtain ⟨S', hS⟩ := hS0
  exact gap_eq hk hA hB hS hp (Int.min_le_right _ _)
theorem DecAt.div {w : World} {news : Led} {a1 : Nat} {X1 : Int} {n1 : Nat} (h : DecAt w news a1 n1 X1) (hn : n1 ≤ 2) : ∃ S', X1 = 10000000000 * S' := by
  obtain ⟨d, i1, i2, i3, i4, t, p, h1, h2, h3⟩ := h.ex
  exact dv_div h3 hn
theorem cell_boxV {w : World} {news : Led} {s1 : Nat} {W : Int} {n1 : Nat} {s2 : Nat} {H : Int} {n2 : Nat} {ls n : Nat} {c r i pl : Int} {k1 k2 k3 k4 : Tok}
    (ml : (ls, listOf [Value.ref s1, Value.ref s2].toArray n) ∈ news) (d1 : DecAt w news s1 n1 W) (d2 : DecAt w news s2 n2 H) (h1 : 0 ≤ W) (h2 : 0 ≤ H) (h3 : 0 < c) (h4 : c ≤ 4) (h5 : 0 < r) (h6 : r ≤ 3) (h7 : 0 ≤ i) (h8 : i < c * r) (h9 : 0 ≤ pl) (h10 : pl ≤ 4) :
    Sp w none 20 (.ref 292) [.ref ls, .int c k1, .int r k2, .int i k3, .int pl k4] news (PBox w pl.toNat (edgeV W (i % c) c pl.toNat) (edgeV H (r - 1 - i / c) r pl.toNat) (edgeV W (i % c + 1) c pl.toNat) (edgeV H (r - 1 - i / c + 1) r pl.toNat)) := by
  obtain ⟨_, _, _, _, _, _, _, x1, x2, x3⟩ := d1.ex
  obtain ⟨_, _, _, _, _, _, _, y1, y2, y3⟩ := d2.ex
  delta edgeV; exact cell_box ml x1 x2 x3 y1 y2 y3 h1 h2 h3 (Int.lt_of_le_of_lt h4 (by decide)) h5 (Int.lt_of_le_of_lt h6 (by decide)) h7 h8 h9 (Int.le_trans h10 (by decide))
theorem law_edgeV {w : World} {news : Led} {a1 : Nat} {X1 : Int} {n1 : Nat} (d1 : DecAt w news a1 n1 X1) {part parts pl : Int} {k k2 k3 : Tok} (h1 : 0 ≤ part) (h2 : part < 1000) (h3 : 0 < parts) (h4 : parts ≤ 4) (h5 : 0 ≤ pl) (h6 : pl ≤ 4) :
    Sp w none 3 (.ref 330) [.ref a1, .int part k, .int parts k2, .int pl k3] news (PInt (edgeV X1 part parts pl.toNat)) := by
  obtain ⟨_, _, _, _, _, _, _, x1, x2, x3⟩ := d1.ex
  delta edgeV; exact law_edge x1 x2 x3 h1 h2 h3 (Int.lt_of_le_of_lt h4 (by decide)) h5 (Int.le_trans h6 (by decide))
theorem law_scale_tV {w : World} {news : Led} {ls lr : Addr} {S1 S2 R1 R2 pl : Int} {k1 k2 k3 k4 k5 : Tok} (m1 : (ls, tup2 (.int S1 k1) (.int S2 k2)) ∈ news) (m2 : (lr, tup2 (.int R1 k3) (.int R2 k4)) ∈ news) (h1 : 0 < S1) (h2 : S1 < 9223372036854775808) (h3 : 0 < S2) (h4 : S2 < 9223372036854775808) (h5 : 0 ≤ pl) (h6 : pl ≤ 4) :
    Sp w none 3 (.ref 335) [.ref ls, .ref lr, .int pl k5] news (PInt (scaleV R1 R2 S1 S2 pl.toNat)) := by
  delta scaleV; exact law_scale_t m1 m2 h1 h2 h3 h4 h5 (Int.le_trans h6 (by decide))
theorem cell_matrixV {w : World} {news : Led} {s1 : Nat} {S1 : Int} {n1 : Nat} {s2 : Nat} {S2 : Int} {n2 : Nat} {s3 : Nat} {XA : Int} {s4 : Nat} {XB : Int} {s5 : Nat} {XC : Int} {s6 : Nat} {XD : Int} {k : Nat} {ls n lc : Nat} {pl : Int} {k2 : Tok}
    (ml : (ls, listOf [Value.ref s1, Value.ref s2].toArray n) ∈ news) (d1 : DecAt w news s1 n1 S1) (d2 : DecAt w news s2 n2 S2) (mc : (lc, tup4 (.ref s3) (.ref s4) (.ref s5) (.ref s6)) ∈ news) (d3 : DecAt w news s3 k XA) (d4 : DecAt w news s4 k XB) (d5 : DecAt w news s5 k XC) (d6 : DecAt w news s6 k XD)
    (h1 : 0 < S1) (h2 : S1 < 9223372036854775808) (h3 : 0 < S2) (h4 : S2 < 9223372036854775808) (h5 : 0 ≤ pl) (h6 : pl ≤ 4) (q1 : n1 ≤ 2) (q2 : n2 ≤ 2) (q3 : k ≤ 4) :
    Sp w none 30 (.ref 299) [.ref ls, .ref lc, .int pl k2] news (PMat w pl.toNat 12 12 (zed (XC - XA) (XD - XB) S1 S2 pl.toNat) (ctr XA (XC - XA) S1 (zed (XC - XA) (XD - XB) S1 S2 pl.toNat)) (ctr XB (XD - XB) S2 (zed (XC - XA) (XD - XB) S1 S2 pl.toNat))) := by
  obtain ⟨_, _, _, _, _, _, _, a1, a2, a3⟩ := d1.ex
  obtain ⟨_, _, _, _, _, _, _, b1, b2, b3⟩ := d2.ex
  obtain ⟨_, _, _, _, _, _, _, c1, c2, c3⟩ := d3.ex
  obtain ⟨_, _, _, _, _, _, _, e1, e2, e3⟩ := d4.ex
  obtain ⟨_, _, _, _, _, _, _, f1, f2, f3⟩ := d5.ex
  obtain ⟨_, _, _, _, _, _, _, g1, g2, g3⟩ := d6.ex
  exact cell_matrix ml a1 a2 a3 b1 b2 b3 mc c1 c2 c3 e1 e2 e3 f1 f2 f3 g1 g2 g3 h1 h2 h3 h4 h5 h6 q1 q2 q3 q3 q3 q3
set_option hygiene false in
local macro_rules | `(tactic| k_extra "m:mem") => return fi [wr (tk "assumption"), ex (tm "List.mem_cons_self"), sq [rf (tm "List.mem_cons_of_mem _ ?_"), kx "m:mem"], sq [wr (rf (ap "Sub.up" [byT (wr (tk "assumption")), tm "_", tm "?_"])), kx "m:mem"]]
set_option hygiene false in
local macro_rules | `(tactic| k_extra "m:sub") => return fi [ex (tm "sub0"), sq [so "List.nil_append List.cons_append", kx "m:sub"], sq [re (ap "List.forall_mem_cons.mpr" [an [byT (kx "m:mem"), tm "?_"]]), kx "m:sub"], sq [re (tm "sub1 ?_"), kx "m:sub"], sq [wr (re (ap "subUp" [byT (wr (tk "assumption")), tm "?_"])), kx "m:sub"]]
set_option hygiene false in
local macro_rules | `(tactic| k_extra "m:fact") => return fi [wr (tk "assumption"), tk "omega", tk "decide"]
set_option hygiene false in
local macro_rules | `(tactic| walk_at "call ref") => return th (sq [tk "k_here", df (fi [sq [shc 323, sq [rf (tm "use_int ?zN ?zC ?zB ?zF ?zX ?zT ?zk ?zd ?zu ?_"), cl "zN k_asm", cs "zC" (ex (ap "law_largeO" [byT (kx "m:decat")])), kx "m:k1", tk "intros"]], sq [shc 330, sq [rf (tm "use_int ?zN ?zC ?zB ?zF ?zX ?zT ?zk ?zd ?zu ?_"), cl "zN k_asm", cs "zC" (ex (ap "law_edgeV" [byT (kx "m:decat"), byT (kx "m:fact"), byT (kx "m:fact"), byT (kx "m:fact"), byT (kx "m:fact"), byT (kx "m:fact"), byT (kx "m:fact")])), kx "m:k1", tk "intros"]], sq [shc 335, sq [rf (tm "use_int ?zN ?zC ?zB ?zF ?zX ?zT ?zk ?zd ?zu ?_"), cl "zN k_asm", cs "zC" (ex (ap "law_scale_tV" [byT (kx "m:mem"), byT (kx "m:mem"), byT (kx "m:fact"), byT (kx "m:fact"), byT (kx "m:fact"), byT (kx "m:fact"), byT (kx "m:fact"), byT (kx "m:fact")])), kx "m:k1", tk "intros"]], sq [shc 292, sq [rf (tm "use_boxO ?zN ?zC ?zB ?zF ?zX ?zT ?zk ?zd ?zu ?_"), cl "zN k_asm", cs "zC" (ex (ap "cell_boxV" [byT (kx "m:mem"), byT (kx "m:decat"), byT (kx "m:decat"), byT (kx "m:fact"), byT (kx "m:fact"), byT (kx "m:fact"), byT (kx "m:fact"), byT (kx "m:fact"), byT (kx "m:fact"), byT (kx "m:fact"), byT (kx "m:fact"), byT (kx "m:fact"), byT (kx "m:fact")])), kx "m:k1", tk "intros"]], sq [shc 299, sq [rf (tm "use_matO ?zN ?zC ?zB ?zF ?zX ?zT ?zk ?zd ?zu ?_"), cl "zN k_asm", cs "zC" (ex (ap "cell_matrixV" [byT (kx "m:mem"), byT (kx "m:decat"), byT (kx "m:decat"), byT (kx "m:mem"), byT (kx "m:decat"), byT (kx "m:decat"), byT (kx "m:decat"), byT (kx "m:decat"), byT (kx "m:fact"), byT (kx "m:fact"), byT (kx "m:fact"), byT (kx "m:fact"), byT (kx "m:fact"), byT (kx "m:fact"), byT (kx "m:fact"), byT (kx "m:fact"), byT (kx "m:fact")])), kx "m:k1", tk "intros"]]])]) (sq [tr (tk "k_sweep"), tr (tk "dsimp_only"), tr (tk "k_fold")])
set_option hygiene false in
local macro_rules | `(tactic| k_lt $h:ident) => return q `(tactic| replace $h := allLt_of $h)
set_option hygiene false in
local macro_rules | `(tactic| walk_at "SrcX") => return sq [tk "k_here", df (fi [sq [rf (tm "SrcX.tup ?hr50 ?Fr50 ?Nr50 ?mr50 ?zr50 ?_"), cs "hr50" (ex (tm "rfl")), cl "Fr50 k_asm Nr50 k_asm mr50 m:mem", cs "zr50" (fi [tk "size_fits", ex (tm "Nat.le_of_ble_eq_true rfl")])], sq [rf (tm "SrcX.lst ?hr50 ?Fr50 ?Nr50 ?mr50 ?zr50 ?_"), cs "hr50" (ex (tm "rfl")), cl "Fr50 k_asm Nr50 k_asm mr50 m:mem", cs "zr50" (fi [tk "size_fits", ex (tm "Nat.le_of_ble_eq_true rfl")])]]), it "g'", tk "lcg_lit", df (fi [rf (ap "compDecs4" [byT (kx "m:decat"), byT (kx "m:decat"), byT (kx "m:decat"), byT (kx "m:decat"), tm "?_", tm "?_"]), rf (ap "compDecs2" [byT (kx "m:decat"), byT (kx "m:decat"), tm "?_", tm "?_"])]), it "a' n' X' ys' I' oI' C' oC' D' m' h' tk' E' d' hC' hx' F' N' off' ne'", q `(tactic| rotate_left), tk "intros", q `(tactic| rotate_right)]
set_option hygiene false in
local macro_rules | `(tactic| walk_at "EltI") => return ex (an [tm "rfl", tm "_", tm "rfl"])
set_option hygiene false in
local macro_rules | `(tactic| walk_at "pyIter ref") => return th (sq [wr (q `(tactic| show wpAny _ _ (pyIter (Value.ref _)) (fun it s₂ => LoopAtV _ _ _ _ _ _ _ _ _ it s₂) _ _)), rn "Fr _ _ _ _" "lF'", rn "News _ _ _ _" "lN'", rn "IsRange _ _ _ _ _ _ _ _" "rgX", wu (re (ap "iter_rangeLawO" [qt `(["cell", "column", "row", "left", "bottom", "right", "top", "wide", "high", "scale", "m", "unit", "before", "behind", "under", "over_it"]), byT (tk "rfl"), tm "rgX", ap "small_one" [byT (tk "omega"), byT (tk "omega"), byT (tk "omega"), byT (tk "omega")], tm "rangeSize_nat _ _", tm "lF'", tm "lN'", qt `(fun n' t' u' h' tk' o' hlt' hlo' hhi' F' N' => hideP fun tp htp => ?_), qt `(fun u' h' tk' F' N' => ?_)]))]) (sq [clr "lF' lN'", tr (dsa "N'"), tr (fi [pw "k_lt" "hlt'", clr "hlt'"]), tr (q `(tactic| have hi2 : n' < c * r := by omega)), tr (hv "g1" (tm "div_lt_rows c1 hi2")), tr (q `(tactic| have g2 : 0 ≤ n' / c := Int.ediv_nonneg hlo' (Int.le_of_lt c1))), tr (hv "g3" (ap "Int.emod_nonneg" [tm "n'", tm "Int.ne_of_gt c1"])), tr (hv "g4" (tm "Int.emod_lt_of_pos n' c1"))])
set_option hygiene false in
local macro_rules | `(tactic| walk_at "exec For Name Call cons nil") => return sq [tk "k_here", rn "Fr _ _ _ _" "lF'", sq [wu (rf (tm "For_invVF lF' ?k1r53 ?k2r53 ?_")), cs "k1r53" (ex (tm "rfl")), cs "k2r53" (ex (tm "rfl")), tk "k_whole"]]
set_option hygiene false in
local macro_rules | `(tactic| walk_at "binaryOp FloorDiv int int") => return sq [tk "k_here", wr (re (ap "fdiv_nn" [tm "p10_pos _", tm "?h1r54", tm "?_"])), cs "h1r54" (df (ex (ap "p10_lt" [byT (tk "omega")])))]
theorem zed_eq {R1 R2 S1 S2 pl : Int} (h0 : 0 ≤ pl) (h1 : pl.toNat ≤ 4) :
    [zed R1 R2 S1 S2 pl.toNat, 0, 0, zed R1 R2 S1 S2 pl.toNat] = [scaleV R1 R2 S1 S2 pl.toNat * 10 ^ (12 - pl).toNat, 0, 0, scaleV R1 R2 S1 S2 pl.toNat * 10 ^ (12 - pl).toNat] := by
  have e : (12 - pl).toNat = 12 - pl.toNat := by omega
  rw [e]; rfl
theorem cr_bound {c r : Int} (h1 : 0 < c) (h2 : c ≤ 4) (h3 : 0 < r) (h4 : r ≤ 3) : 0 < c * r ∧ c * r ≤ 12 :=
  ⟨Int.mul_pos h1 h3, Int.le_trans (Int.mul_le_mul_of_nonneg_right h2 (Int.le_of_lt h3)) (by omega)⟩
theorem law_cells_right : ∀ {w : World} {news : Led} {s1 : Nat} {W : Int} {n1 : Nat} {s2 : Nat} {H : Int} {n2 : Nat} {ls n : Nat} {s3 : Nat} {S1 : Int} {n3 : Nat} {s4 : Nat} {S2 : Int} {n4 : Nat} {lz nz : Nat} {c r pl : Int} {k1 k2 k3 : Tok}
    (_ : (ls, listOf [Value.ref s1, Value.ref s2].toArray n) ∈ news) (_ : DecAt w news s1 n1 W) (_ : DecAt w news s2 n2 H) (_ : (lz, listOf [Value.ref s3, Value.ref s4].toArray nz) ∈ news) (_ : DecAt w news s3 n3 S1) (_ : DecAt w news s4 n4 S2)
    (_ : n3 ≤ 2) (_ : n4 ≤ 2) (_ : 0 ≤ W) (_ : 0 ≤ H) (_ : 0 < S1) (_ : S1 < 9223372036854775808) (_ : 0 < S2) (_ : S2 < 9223372036854775808) (_ : 0 < c) (_ : c ≤ 4) (_ : 0 < r) (_ : r ≤ 3) (_ : 0 ≤ pl) (_ : pl ≤ 4),
    Sp w none 40 (.ref 340) [.ref ls, .int c k1, .int r k2, .ref lz, .int pl k3] news (PBool true) := by
  intro w news s1 W n1 s2 H n2 ls n s3 S1 n3 s4 S2 n4 lz nz c r pl k1 k2 k3 ml d1 d2 mz d3 d4 q3 q4 hW hH h1 h2 h3 h4 c1 c2 r1 r2 l1 l2
  have l3 : pl.toNat ≤ 4 := by omega
  have v3 := d3.div q3
  have v4 := d4.div q4
  obtain ⟨cr1, cr2⟩ := cr_bound c1 c2 r1 r2
  unfold Sp; k_fill; intro dp un gd cn cs a ccd cl outer A₀ base h₀ L m mean mg mb s Q E B F X N T hk hdp hu hret
  refine wpAny_call ?_
  k_dflt (refine' code_def (binds := [(Str.ofString "sheet", .ref ls), (Str.ofString "columns", .int c k1), (Str.ofString "rows", .int r k2), (Str.ofString "size", .ref lz), (Str.ofString "places", .int pl k3)]) ?k1 ?k2 ?k3 ?k4 ?k5 ?kA ?kF ?kK ?k6 ?k7 ?k8 ?k9 ?kB ?_ ?c2 ?c3 ?c4 ?c5; k_extra "m:E"; k_whole; intro g' L' h1' FG' F1 N1 B' X' T'; (try dsimp only); (try k_fold))
  dsimp only [List.reverse, List.reverseAux] at F1
  k_steps
  all_goals first
    | exact hret _ [] _ _ (by assumption) (by assumption) fresh0 ⟨rfl, rfl⟩
    | exact absurd (gap1 l3 v3 h1).1 (by with_reducible assumption)
    | exact absurd (gap2 l3 v4 h3).1 (by with_reducible assumption)
    | exact absurd (gap1 l3 v3 h1).2 (Int.not_le.mpr (by with_reducible assumption))
    | exact absurd (gap2 l3 v4 h3).2 (Int.not_le.mpr (by with_reducible assumption))
    | exact absurd (zed_eq l1 l3) (by with_reducible assumption)
    | skip
  all_goals first
    | (rename Fr _ _ _ _ => lF'
       rename News _ _ _ _ => lN'
       (try dsimp only)
       refine htp _ _ ?_
       show PySem.W.TurnEnd _ _ _ _ _ _ _ _
       refine PySem.W.TurnEnd.intro lF' lN' ?_ ?_)
    | skip
  · k_extra "m:sub"
  · intro y h1 h2
    have h3 := h2
    simp only [List.contains_cons, List.contains_nil, Bool.or_eq_false_iff, beq_eq_false_iff_ne, ne_eq] at h3
    obtain ⟨b1, b2, b3, b4, b5, b6, b7, b8, b9, b10, b11, b12, b13, b14, b15, b16, _⟩ := h3
    repeat first | rw [if_neg b16] | rw [if_neg b15] | rw [if_neg b14] | rw [if_neg b13] | rw [if_neg b12] | rw [if_neg b11] | rw [if_neg b10] | rw [if_neg b9] | rw [if_neg b8] | rw [if_neg b7] | rw [if_neg b6] | rw [if_neg b5] | rw [if_neg b4] | rw [if_neg b3] | rw [if_neg b2] | rw [if_neg b1]
    rw [if_neg h1, h2]
    rfl
  · k_extra "m:sub"
  · intro y h1 h2
    have h3 := h2
    simp only [List.contains_cons, List.contains_nil, Bool.or_eq_false_iff, beq_eq_false_iff_ne, ne_eq] at h3
    obtain ⟨b1, b2, b3, b4, b5, b6, b7, b8, b9, b10, b11, b12, b13, b14, b15, b16, _⟩ := h3
    repeat first | rw [if_neg b16] | rw [if_neg b15] | rw [if_neg b14] | rw [if_neg b13] | rw [if_neg b12] | rw [if_neg b11] | rw [if_neg b10] | rw [if_neg b9] | rw [if_neg b8] | rw [if_neg b7] | rw [if_neg b6] | rw [if_neg b5] | rw [if_neg b4] | rw [if_neg b3] | rw [if_neg b2] | rw [if_neg b1]
    rw [if_neg h1, h2]
    rfl

end
section
section
variable {prog : Program} {w : World} {A : Around} {E : Value → Shared → Prop} {h : Heap} {g : Array GenState} {d : Drawn} {t : Nat} {os : OsState}
variable {nm q : Str} {C N : Addr} {bs bm : List Value} {hdct : Bool} {sn : List Str} {sub : List Value} {ab : Bool} {col : Option Bool} {dd : Option Addr} {k0 k1 k2 k3 k5 : Option Value}
/-- what type.__call__ makes of a class of ours below Exception, before its __init__ has run -/
abbrev newExc (C t : Addr) (ds : Option Addr) : Obj := { cls := .ref C, dict := ds, data := .fields #[.ref t, .none, .none, .none, .bool false, .none] }
theorem tf_new {rest : List Value} {R : Result → Shared → Prop} (hB : bm.contains (.type "Exception") = true) (hA : bm.contains (.type "AttributeError") = false) (hN : bm.contains (.type "NameError") = false)
    (hC : h.get? C = some (excClassObj nm q C N bs bm hdct sn sub ab col dd k0 k1 k2 k3 k5 "Exception.__new__"))
    (hq : R (.ok (.ret (.ref (h.objs.size + 1)))) ⟨(h.push { cls := .type "tuple", data := .seq rest.toArray }).push (newExc C h.objs.size none), g, d, t, os⟩) (hrest : rest.length ≤ sizeLine) :
    codeAny (model prog w) A (.builtin "Exception.__new__" ⟨.ref C :: rest, []⟩) R ⟨h, g, d, t, os⟩ := by
  have Fn := PySem.F.excBase_Exception
  have hends := Fn.ends
  have hcB : (Value.ref C :: bm).contains (.type "Exception") = true := by rw [List.contains_cons, hB, Bool.or_true]
  have hcA : (Value.ref C :: bm).contains (.type "AttributeError") = false := by rw [List.contains_cons, hA]; rfl
  have hcN : (Value.ref C :: bm).contains (.type "NameError") = false := by rw [List.contains_cons, hN]; rfl
  refine codeAny_builtinAt Fn.entry ?_
  unfold Builtin.«BaseException.__new__»
  refine PySem.wpAt_bind ?_
  show PySem.wpAt _ _ _ (stack >>= _) _ _ _
  refine PySem.wpAt_bind (PySem.wpAt_stack fun p below => PySem.wpAt_of_wpAny ?_)
  wp_walk
  refine PySem.wpAt_of_wpAny ?_
  rw [Fn.owner]
  repeat (first | with_reducible refine wpAny_madeHere_exc Fn.canon hC ?_ | with_reducible refine wpAny_loadPart_at hC ?_ | (with_reducible refine wpAny_isSubtype_exc hC ?_; first | rw [hcB] | rw [hcA] | rw [hcN]) | wp_step)
  show R _ _
  rw [Heap.size_push]
  exact hq
theorem tf_type {rest : List Value} {fI : Addr} {Q : Fin → Shared → Prop} (hB : bm.contains (.type "Exception") = true) (hA : bm.contains (.type "AttributeError") = false) (hN : bm.contains (.type "NameError") = false)
    (hC : h.get? C = some (excClassObj nm q C N bs bm hdct sn sub ab col dd k0 k1 k2 k3 k5 "Exception.__new__"))
    (hL : Looks (model prog w) ((h.push { cls := .type "tuple", data := .seq rest.toArray }).push (newExc C h.objs.size none)) (typeLookup (.ref C) "__init__") (some (.ref fI)))
    (hb : Looks (model prog w) ((h.push { cls := .type "tuple", data := .seq rest.toArray }).push (newExc C h.objs.size none)) (bindSpecial (.ref fI) (.ref (h.objs.size + 1))) (.ref fI, [.ref (h.objs.size + 1)]))
    (hq : wpAny (model prog w) A (call (.ref fI) (.ref (h.objs.size + 1) :: rest)) (fun r s' => r = .none ∧ Q (.done (.ret (.ref (h.objs.size + 1)))) s') E ⟨(h.push { cls := .type "tuple", data := .seq rest.toArray }).push (newExc C h.objs.size none), g, d, t, os⟩) (hrest : rest.length ≤ sizeLine) :
    wpAny (model prog w) A (Builtin.«type.__call__» ⟨.ref C :: rest, []⟩) Q E ⟨h, g, d, t, os⟩ := by
  repeat (first | with_reducible refine wpAny_loadPart_at hC ?_ | with_reducible refine wpAny_madeBy_exc hC ?_ | wp_step)
  refine codeAny_call_builtin_code (Code.quiet_builtin _ PySem.F.excBase_Exception.quiet) (wpAny_check_new_subU PySem.F.excBase_Exception hB .base hC ?_)
  refine tf_new hB hA hN hC ?_ hrest
  show wpAny _ _ _ _ _ _
  have hC₁ := Heap.get?_push_of_some (newExc C h.objs.size none) (Heap.get?_push_of_some { cls := .type "tuple", data := .seq rest.toArray } hC)
  have hget : ((h.push { cls := .type "tuple", data := .seq rest.toArray }).push (newExc C h.objs.size none)).get? (h.objs.size + 1) = some (newExc C h.objs.size none) := by heap_get
  have hcC : (Value.ref C :: bm).contains (.ref C) = true := by simp
  unfold isInstance
  repeat (first | with_reducible refine wpAny_loadPart_at hget ?_ | (with_reducible refine wpAny_isSubtype_exc hC₁ ?_; rw [hcC]) | wp_step)
  show wpAny _ _ (typeLookup (.ref C) _) _ _ _
  refine hL.here ?_
  refine wpAny_holding (wpAny_bind ?_)
  refine hb.here ?_
  refine wpAny_bind (wpAny_mono hq (fun r s' hr => ?_) fun _ _ x => x)
  obtain ⟨rfl, hQ⟩ := hr
  wp_walk
  exact hQ
theorem tf_call {rest : List Value} {fI : Addr} {Q : Value → Shared → Prop} (hB : bm.contains (.type "Exception") = true) (hA : bm.contains (.type "AttributeError") = false) (hN : bm.contains (.type "NameError") = false)
    (hC : h.get? C = some (excClassObj nm q C N bs bm hdct sn sub ab col dd k0 k1 k2 k3 k5 "Exception.__new__"))
    (hL : Looks (model prog w) ((h.push { cls := .type "tuple", data := .seq rest.toArray }).push (newExc C h.objs.size none)) (typeLookup (.ref C) "__init__") (some (.ref fI)))
    (hb : Looks (model prog w) ((h.push { cls := .type "tuple", data := .seq rest.toArray }).push (newExc C h.objs.size none)) (bindSpecial (.ref fI) (.ref (h.objs.size + 1))) (.ref fI, [.ref (h.objs.size + 1)]))
    (hq : wpAny (model prog w) (A.under (.builtin "type.__call__" ⟨.ref C :: rest, []⟩)) (call (.ref fI) (.ref (h.objs.size + 1) :: rest)) (fun r s' => r = .none ∧ Q (.ref (h.objs.size + 1)) s') E ⟨(h.push { cls := .type "tuple", data := .seq rest.toArray }).push (newExc C h.objs.size none), g, d, t, os⟩) (hrest : rest.length ≤ sizeLine) :
    wpAny (model prog w) A (call (.ref C) rest) Q E ⟨h, g, d, t, os⟩ := by
  have f1 := tc_lookup
  have f2 := tc_bind (.ref C)
  have hT : (⟨h, g, d, t, os⟩ : Shared).TypeIs (.ref C) "type" := ⟨_, hC, rfl⟩
  refine wpAny_call (codeAny_of_tree ?_)
  show wpAny _ _ (callAny (.ref C) _) _ _ _
  repeat (any_goals (first | assumption | with_reducible refine wpAny_loadPart_at hC ?_ | wp_step))
  refine ⟨rfl, ?_⟩
  exact codeAny_call_builtin_at (Code.quiet_builtin _ (by decide +kernel)) entry_typeCall (wpAny_check_type_call_sub hC (tf_type hB hA hN hC hL hb hq hrest))
end

end
section
open Builtin Builtin.ObjectAttr
section
variable {prog : Program} {w : World} {A : Around} {E : Value → Shared → Prop} {s : Shared} {h₀ : Heap} {L e C : Addr} {m : Str → Option Value} {K : Frag} {pre post : Led} {R : Result → Shared → Prop} {name : Str} {v : Value} {tk : Tok}
theorem tf_store {d : Addr} {od od' : Obj} {es : List DictEntry} {n : Nat} {Q : PySem.Fin → Shared → Prop} (F : Fr h₀ L s.heap m) (N : News h₀ L s.heap (pre ++ (d, od) :: post))
    (hl : (lookIn name od).isSome = true) (h1 : ∀ p ∈ pre, p.1 ≠ d) (h2 : ∀ p ∈ post, p.1 ≠ d) (eq : Obj.putName name (PyData.keyHash w.params name) (.str name s.toks) v od = od') (e' : od'.data = .dict es.toArray n) (hz : es.length ≤ 1000)
    (h : ∀ h', Fr h₀ L h' m → News h₀ L h' (pre ++ (d, od') :: post) → Q (.done (.ret .none)) { s with heap := h', toks := s.toks + 1 }) :
    wpAny (model prog w) A (storeInDict d (.str name tk) name v) Q E s := by
  obtain ⟨U1, U2⟩ := news_upd (f := Obj.putName name (PyData.keyHash w.params name) (.str name s.toks) v) F N h1 h2 eq (by obtain ⟨_, _, dd, _⟩ := od'; cases e'; rfl)
  have D := (N (d, od) (by simp)).1
  have D' := (U2 (d, od') (by simp)).1
  unfold storeInDict newKeyGuard
  refine wpAny_bind (wpAny_pure (wpAny_bind ?_))
  unfold nsSet
  refine wpAny_bind (wpAny_bind (wpAny_askSetting (wpAny_pure (wpAny_bind (wpAny_mkText (wpAny_bind (wpAny_loadPart D ?_)))))))
  unfold lookIn at hl
  split at hl
  · rename_i es₀ n₀ q
    rw [q]
    dsimp only
    have c : (!es₀.any (·.key.isStr name) && es₀.any (·.refKey)) = false := by
      rw [← Array.any_toList, ← Array.any_toList]
      split at hl
      · rename_i en he
        rw [List.any_eq_true.mpr ⟨en, List.mem_of_find?_eq_some he, List.find?_some he⟩]; rfl
      · split at hl
        · cases hl
        · rename_i z; rw [Bool.not_eq_true] at z; rw [z, Bool.and_false]
    rw [aRefKeyMayBeTheName_at, c]
    refine wpAny_updatePart D ?_
    refine wpAny_bind (wpAny_lookBehind D' (by rw [e']; exact pastItsLine_dict (by rw [List.size_toArray, sizeLine_eq]; omega)) ?_)
    exact wpAny_pure (h _ U1 U2)
  · cases hl
structure ExcK (K : Frag) (C : Addr) : Prop where
  cls : ∃ cd a b, clsIn K C = some cd ∧ cd.hasDict = true ∧ cd.mro = [.ref a, .ref b, .type "Exception", .type "BaseException", .type "object"]
  sub : subIn K (.ref C) (.type "Exception") = some true
  subB : subIn K (.ref C) (.type "BaseException") = some true
  typ : typeIn K (.ref C) = some (.type "type")
  set : findIn K (.ref C) "__setattr__" = some (some (.builtin "object.__setattr__"))
theorem exc_refuse {l : List Value} {a b : Addr} (e : l = [.ref a, .ref b, .type "Exception", .type "BaseException", .type "object"]) (self : Value) :
    refuseLoop self "__setattr__" l = pure () ∧ l.contains (.type "object") = true ∧ l.isEmpty = false := by
  subst e
  refine ⟨?_, by simp, rfl⟩
  rw [refuseLoop_ref, refuseLoop_ref, PySem.F.store_Exception.passes]
theorem tf_open {ox : Obj} {od : Option Obj} (X : K.In s.heap) (I : InstAt s.heap e ox C od) (hp : ExcK K C) (ha : findIn K (.ref C) name = some none)
    (h : wpAny (model prog w) A.in1 (storeInOwnDict (.ref e) (.ref C) (.str name tk) name v false)
      (fun fin s' => match fin with | .done f => R (.ok f) s' | .again c' => c'.quiet = true ∧ codeAny (model prog w) A c' R s') (fun e s' => R (.error e) s') s) :
    codeAny (model prog w) A (.call (.builtin "object.__setattr__") ⟨[.ref e, .str name tk, v], []⟩) R s := by
  have SF := PySem.F.store_object
  obtain ⟨cd, c1, c2, hc, ho, hmro⟩ := hp.cls
  obtain ⟨r1, r2, r3⟩ := exc_refuse hmro (.ref e)
  have sub : Looks (model prog w) s.heap (isInstance (.ref e) (.type "object")) true := I.type.andThen (looks_mroIn X (by unfold mroIn; rw [hc, Option.bind_some, if_neg (by rw [r3]; decide), r2]))
  refine codeAny_call_builtin SF.slot.plain SF.entry (@check_slot (model prog w) _ _ s "object.__setattr__" "object" "__setattr__" (.ref e) [.str name tk, v] [] _ SF.kind SF.split sub (SF.args (.ref e) (.str name tk) v) ?_)
  have hm : Looks (model prog w) s.heap (mroOf (.ref C)) cd.mro := (looks_clsIn X hc).andThen .now
  have L3 : Looks (model prog w) s.heap (storeTaker? none) none := .now
  rw [osa_eq, refuse_eq]
  refine wpAny_bind (wpAny_bind (I.type.here (wpAny_bind (hm.here ?_))))
  rw [r1]
  refine wpAny_pure (wpAny_bind (I.type.here (wpAny_bind ((looks_findIn X ha).here (wpAny_bind (L3.here ?_))))))
  exact h
theorem tf_set1 {t : Addr} {rest : Led} {Q : Unit → Shared → Prop} (F : Fr h₀ L s.heap m) (X₀ : K.In h₀) (N : News h₀ L s.heap ((e, newExc C t none) :: rest)) (off : ∀ p ∈ rest, p.1 ≠ e)
    (hp : ExcK K C) (ha : findIn K (.ref C) name = some none)
    (h : ∀ h' d tk', Fr h₀ L h' m → (∀ p ∈ (e, newExc C t none) :: rest, p.1 < d) → News h₀ L h' ((d, dictOf [⟨PyData.keyHash w.params name, .str name (s.toks + 1), v⟩] 1) :: (e, newExc C t (some d)) :: rest) → Q () { s with heap := h', toks := tk' }) :
    wpAny (model prog w) A (setAttr (.ref e) name v) Q E s := by
  have X := X₀.keeps F.keep
  have hx := (N _ List.mem_cons_self).1
  have I : InstAt s.heap e (newExc C t none) C none := ⟨hx, rfl, rfl, trivial⟩
  obtain ⟨cd, c1, c2, hc, ho, -⟩ := hp.cls
  refine set_plain X I hp.set (tf_open (s := { s with toks := s.toks + 1 }) X I hp ha ?_)
  refine wpAny_bind (wpAny_pure (wpAny_bind (wpAny_bind (wpAny_loadPart hx (wpAny_bind ((looks_clsIn X hc).here (s := { s with toks := s.toks + 1 }) ?_))))))
  rw [ho]
  dsimp only
  simp only [Bool.not_true, Bool.false_eq_true, if_false, Bool.false_or]
  rw [if_neg (by simp [typeHasDict])]
  have hlt : ∀ p ∈ (e, newExc C t none) :: rest, p.1 < s.heap.objs.size := fun p hp => Heap.lt_size (N p hp).1
  have F1 := F.push emptyDict
  have N1 := N.push F emptyDict
  have hx₁ := (N1 _ (List.mem_cons_of_mem _ List.mem_cons_self)).1
  obtain ⟨F2, N2⟩ := news_upd (pre := [(s.heap.objs.size, emptyDict)]) (post := rest) (o := newExc C t none) (o' := newExc C t (some s.heap.objs.size)) (f := fun o => { o with dict := some s.heap.objs.size }) F1 N1
    (fun p hp => by rw [List.mem_singleton.mp hp]; exact Nat.ne_of_gt (hlt _ List.mem_cons_self)) off rfl rfl
  refine wpAny_bind (wpAny_alloc' ?_)
  refine wpAny_bind (wpAny_update' hx₁ ?_)
  refine wpAny_pure ?_
  refine tf_store (pre := []) (od := emptyDict) (od' := dictOf [⟨PyData.keyHash w.params name, .str name (s.toks + 1), v⟩] 1) (es := [⟨PyData.keyHash w.params name, .str name (s.toks + 1), v⟩]) (n := 1) F2 N2 rfl (fun _ h => nomatch h) (fun p hp => ?_) (by exact putName_dict name _ _ v [] 0) rfl (by simp) fun h' F' N' => ?_
  · rcases List.mem_cons.mp hp with rfl | hp
    · exact Nat.ne_of_lt (hlt (e, newExc C t none) List.mem_cons_self)
    · exact Nat.ne_of_lt (hlt p (List.mem_cons_of_mem _ hp))
  · exact h h' _ _ F' hlt N'
theorem tf_set2 {t d : Addr} {rest : Led} {es es' : List DictEntry} {n n' : Nat} {Q : Unit → Shared → Prop} (F : Fr h₀ L s.heap m) (X₀ : K.In h₀) (N : News h₀ L s.heap ((d, dictOf es n) :: (e, newExc C t (some d)) :: rest)) (off : ∀ p ∈ (e, newExc C t (some d)) :: rest, p.1 ≠ d)
    (hp : ExcK K C) (ha : findIn K (.ref C) name = some none) (hl : (getL name es).isSome = true)
    (eq : (putL name (PyData.keyHash w.params name) (.str name (s.toks + 1)) v es, putN name es n) = (es', n')) (hz : es'.length ≤ 1000)
    (h : ∀ h' tk', Fr h₀ L h' m → News h₀ L h' ((d, dictOf es' n') :: (e, newExc C t (some d)) :: rest) → Q () { s with heap := h', toks := tk' }) :
    wpAny (model prog w) A (setAttr (.ref e) name v) Q E s := by
  have X := X₀.keeps F.keep
  have hx := (N _ (List.mem_cons_of_mem _ List.mem_cons_self)).1
  have I : InstAt s.heap e (newExc C t (some d)) C (some (dictOf es n)) := ⟨hx, rfl, rfl, (N _ List.mem_cons_self).1⟩
  obtain ⟨cd, c1, c2, hc, ho, -⟩ := hp.cls
  obtain ⟨e1, e2⟩ := Prod.mk.inj eq
  refine set_plain X I hp.set (tf_open (s := { s with toks := s.toks + 1 }) X I hp ha ?_)
  refine wpAny_bind (wpAny_pure (wpAny_bind (wpAny_bind (wpAny_loadPart hx (wpAny_bind ((looks_clsIn X hc).here (s := { s with toks := s.toks + 1 }) ?_))))))
  rw [ho]
  refine wpAny_pure (a := some d) ?_
  exact tf_store (s := { s with toks := s.toks + 1 }) (pre := []) (od := dictOf es n) F N hl (fun _ h => nomatch h) off (by rw [putName_dict, e1, e2]) rfl hz fun h' F' N' => h h' _ F' N'
end
section
variable {prog : Program} {w : World} {A : Around} {E : Value → Shared → Prop} {s : Shared} {h₀ : Heap} {L e C : Addr} {m : Str → Option Value} {K : Frag}
theorem tf_check {M : Model} {rest : List Value} {Q : Unit → Shared → Prop} (hi : Looks M s.heap (isInstance (.ref e) (.type "Exception")) true) (ht : Looks M s.heap (typeOf (.ref e)) (.ref C)) (hn : ∀ (Q' : String → Shared → Prop), (∀ x, Q' x s) → wpAny M A (typeNameWhole (.ref C)) Q' E s) (hq : Q () s) :
    wpAny M A (checkBuiltinCall "Exception.__init__" ⟨.ref e :: rest, []⟩) Q E s := by
  have F := PySem.F.excBase_Exception
  simp only [checkBuiltinCall, F.initKind, F.initSplit, F.initRow]
  refine wpAny_bind (hi.here ?_)
  simp only [Bool.not_true, Bool.false_eq_true, if_false]
  unfold Bind.checkArgs
  dsimp only
  refine wpAny_bind (m := Bind.printed "*" true _ _) ?_
  unfold Bind.printed Bind.receiverType
  rw [if_neg (by decide)]
  refine wpAny_bind (m := (if (Manifest.Receiver.self == Manifest.Receiver.cls) = true then pure (.ref e) else typeOf (.ref e))) ?_
  rw [if_neg (by decide)]
  refine ht.here (wpAny_bind (m := typeNameWhole _) (hn _ fun x => wpAny_pure ?_))
  refine wpAny_bind ?_
  rw [if_pos (by decide)]
  refine wpAny_pure ?_
  show wpAny M A (Sem.onRaise (Bind.check _ _ "Exception" _ []) _) Q E s
  rw [check_varPos]
  exact wpAny_pure hq
theorem tf_init {t : Addr} {ds : Option Addr} {x : Value} {rest : Led} {Q : Value → Shared → Prop} (F : Fr h₀ L s.heap m) (X₀ : K.In h₀) (N : News h₀ L s.heap ((e, newExc C t ds) :: rest)) (off : ∀ p ∈ rest, p.1 ≠ e)
    (hp : ExcK K C)
    (h : ∀ h' t', Fr h₀ L h' m → News h₀ L h' ((e, newExc C t' ds) :: rest) → Q .none { s with heap := h' }) :
    wpAny (model prog w) A (call (.builtin "Exception.__init__") [.ref e, x]) Q E s := by
  have X := X₀.keeps F.keep
  have hx := (N _ List.mem_cons_self).1
  have ht : ∀ M, Looks M s.heap (typeOf (.ref e)) (.ref C) := fun M => (Looks.ld hx).andThen .now
  have hi : ∀ M, Looks M s.heap (isInstance (.ref e) (.type "Exception")) true := fun M => (ht M).andThen (looks_subIn X hp.sub)
  have G := PySem.F.excBase_Exception
  refine wpAny_call (codeAny_call_builtin G.init.plain G.initEntry (tf_check (hi _) (ht _) (fun Q' hQ' => ?_) ?_))
  · obtain ⟨cd, _, _, hcd, _, _⟩ := hp.cls
    unfold typeNameWhole
    exact wpAny_bind ((looks_clsIn X hcd).here (wpAny_pure (hQ' _)))
  · unfold Builtin.«BaseException.__init__»
    dsimp only
    rw [if_neg (by simp)]
    unfold newTuple Builtin.BaseException.bexcPut
    have F1 := F.push { cls := .type "tuple", data := .seq ([x] : List Value).toArray }
    have N1 := N.push F { cls := .type "tuple", data := .seq ([x] : List Value).toArray }
    have he₁ := (N1 _ (List.mem_cons_of_mem _ List.mem_cons_self)).1
    obtain ⟨F2, N2⟩ := news_upd (pre := [(s.heap.objs.size, { cls := .type "tuple", data := .seq ([x] : List Value).toArray })]) (post := rest) (o := newExc C t ds) (o' := newExc C s.heap.objs.size ds) (f := Obj.mapFields (·.setIfInBounds 0 (.ref s.heap.objs.size))) F1 N1
      (fun p hp => by rw [List.mem_singleton.mp hp]; exact Nat.ne_of_gt (Heap.lt_size hx)) off rfl rfl
    refine wpAny_bind (wpAny_newObj_type (wpAny_bind (wpAny_bind (wpAny_field he₁ rfl (x := .ref t) rfl (wpAny_bind (wpAny_setField he₁ rfl (by simp) ?_))))) (by size_fits))
    exact wpAny_letGo (wpAny_pure (h _ _ F2 (fun p hp => N2 p (List.mem_cons_of_mem _ hp))))
def RaisX (K : Frag) (E : Value → Shared → Prop) (v : Value) (s₁ : Shared) : Prop := ∃ e t C ds, v = .ref e ∧ K.In s₁.heap ∧ ExcK K C ∧ s₁.heap.get? e = some (newExc C t ds) ∧ E (.ref e) s₁
theorem tf_raise {env : Env} {x : PySem.Expr} {pos : Pos} {Q : Flow → Shared → Prop} (hh : A.handled = none)
    (h : wpAny (model prog w) A (eval x env) (RaisX K E) E s) : wpAny (model prog w) A (exec (.Raise (some x) none pos) env) Q E s := by
  show wpAny _ A (do standAt pos; raiseStmt env (some (do let v ← eval x env; standAt pos; pure v)) none) Q E s
  refine wpAny_bind (wpAny_standAt ?_)
  unfold raiseStmt
  dsimp only
  refine wpAny_bind (wpAny_bind (wpAny_mono h (fun v s₁ h₁ => wpAny_bind (wpAny_standAt (wpAny_pure ?_))) fun _ _ x => x))
  obtain ⟨a, t, C, ds, rfl, X, hp, ha, hE⟩ := h₁
  have ht : Looks (model prog w) s₁.heap (typeOf (.ref a)) (.ref C) := (Looks.ld ha).andThen .now
  have hi : Looks (model prog w) s₁.heap (isInstance (.ref a) (.type "BaseException")) true := ht.andThen (looks_subIn X hp.subB)
  have hnt : ∀ {Q' : Bool → Shared → Prop}, Q' false s₁ → wpAny (model prog w) A (isType (.ref a)) Q' E s₁ := by
    intro Q' hq
    simp only [isType, loadHead]
    refine wpAny_bind (wpAny_loadPart ha ?_)
    exact wpAny_pure hq
  refine wpAny_bind (wpAny_pure ?_)
  dsimp only
  refine wpAny_bind (wpAny_holding ?_)
  unfold excFromValue isExcClass
  refine wpAny_bind (wpAny_bind (hnt ?_))
  simp only [Bool.false_eq_true, if_false]
  refine wpAny_pure ?_
  simp only [Bool.false_eq_true, if_false]
  refine wpAny_bind (hi.here ?_)
  simp only [if_true]
  refine wpAny_pure ?_
  refine wpAny_bind (hnt ?_)
  simp only [Bool.false_eq_true, if_false]
  unfold raisedInstance
  refine wpAny_bind (wpAny_bind (ht.here (wpAny_bind ((looks_typeIn X hp.typ).here ?_))))
  rw [if_pos (by decide)]
  refine wpAny_pure ?_
  unfold setFlight raiseNew
  refine wpAny_bind (wpAny_bind (wpAny_field ha rfl (x := .none) rfl ?_))
  rw [if_neg (by decide)]
  refine wpAny_pure (wpAny_bind (wpAny_handled ?_))
  rw [hh]
  first
    | exact wpAny_throw hE
    | exact wpAny_bind (wpAny_pure (wpAny_throw hE))
end

end
section
def RaisedX (base : Heap) (l : List Env) (e : Addr) (cls : Value) (news : Led) (h : Heap) : Prop :=
  ∃ B a0, base.StaysIn B ∧ (∀ q ∈ news, B.get? q.1 = some q.2 ∧ base.get? q.1 = none) ∧ Heap.FlyingW B l e cls a0 h
section
variable {M : Model} {A : Around} {E : Value → Shared → Prop} {s' : Shared} {base g : Heap} {outer : List Env} {L a e t C : Addr} {ds : Option Addr} {m : Str → Option Value} {name : Str} {scope : Scope} {cd : Value} {Q : Unit → Shared → Prop} {news : Led}
theorem tf_leave (K : Below A base outer g) (F : Fr g L s'.heap m) (N : News g L s'.heap ((e, newExc C t ds) :: news)) (off : ∀ p ∈ news, p.1 ≠ e)
    (hQ : ∀ h', RaisedX base outer e (.ref C) news h' → g.UpToSlots h' → Q () { s' with heap := h' }) (hk : scope.kind = .function := by rfl) :
    wpAny M (A.deeper (envOf name scope L a cd)) (leaving (envOf name scope L a cd) (.ref e)) Q E s' := by
  have K' := K.push (name := name) (a := a) (cd := cd) F hk
  have hin : ∀ env ∈ (envOf name scope L a cd :: outer), ∀ b, env.frame = some b → b ∈ e :: (envOf name scope L a cd :: outer).filterMap (·.frame) := fun env he b hb => List.mem_cons_of_mem _ (List.mem_filterMap.mpr ⟨env, he, hb⟩)
  have hx := N _ List.mem_cons_self
  have heb : base.get? e = none := fresh_of_stays K.stays hx.2.2
  have st : base.StaysIn (hideAll s'.heap (e :: (envOf name scope L a cd :: outer).filterMap (·.frame))) := fun b o q => hideAll_get _ (K'.stays b o q) fun hm => by
    rcases List.mem_cons.mp hm with rfl | hm
    · rw [heb] at q; cases q
    · rw [(K'.frames.mem hm).1] at q; cases q
  have hl : ∀ q ∈ news, (hideAll s'.heap (e :: (envOf name scope L a cd :: outer).filterMap (·.frame))).get? q.1 = some q.2 ∧ base.get? q.1 = none := fun q hq => by
    have hq' := N q (List.mem_cons_of_mem _ hq)
    refine ⟨hideAll_get _ hq'.1 fun hm => ?_, fresh_of_stays K.stays hq'.2.2⟩
    rcases List.mem_cons.mp hm with he | hm
    · exact off q hq he
    · obtain ⟨env, he, hf⟩ := List.mem_filterMap.mp hm
      rcases List.mem_cons.mp he with rfl | he
      · exact hq'.2.1 (Option.some.inj hf).symm
      · obtain ⟨o, ho, _⟩ := (K.frames.mem (List.mem_filterMap.mpr ⟨env, he, hf⟩)).2
        rw [hq'.2.2] at ho; cases ho
  refine wpAny_leaving_firstW (a0 := .ref t) K'.stack (funFrames_hide K'.frames hin) rfl hx.1 (fun b o q => of_hideAll _ q) (hideAll_none _ List.mem_cons_self) rfl rfl rfl fun h' hL => ?_
  obtain ⟨k1, ⟨_, _, k2⟩, k3, k4⟩ := hL
  exact hQ h' ⟨_, _, st, hl, k1, hideAll_none _ List.mem_cons_self, k2, k3⟩ ((Heap.UpToSlots.of_keeps F.keep).trans k4)
end
/-- PaperError.__init__ on a new exception -/
def SpI (w : World) (C e t : Addr) (x : Value) (rest : Led) : Prop :=
  ∀ (dp un : Nat) (gd : Option (List Code)) (cn : Str) (cs : Scope) (a : Addr) (ccd : Value) (cl : List (Str × Addr)) (outer : List Env) (A₀ : Around) (base h₀ : Heap) (L : Addr) (m : Str → Option Value)
    (mean : ExcName → Option Value) (mg mb : Str → Option Value) (s : Shared) (Q E : Value → Shared → Prop),
    Below A₀ base outer h₀ → Fr h₀ L s.heap m → (Mine.hd0.heap_1_1 w.params).In h₀ → News h₀ L s.heap ((e, newExc C t none) :: rest) → Top Mine.hd0.view_1_2 (looseW Mine.hd0.view_1_2 [Str.ofString "PaperError"]) mean mg mb h₀ → cs.kind = .function →
    dp + 4 < recursionLimit → un + 8 * 4 < cLine →
    (∀ t' d h' tk', Fr h₀ L h' m → News h₀ L h' ((e, newExc C t' (some d)) :: rest) → Q .none { s with heap := h', toks := tk' }) →
    wpAny (model PySem.Challenge.rw_pb0475_01.row.prog w) (ArH none dp un gd cn cs L a ccd cl outer) (call (.ref 36) [.ref e, x]) Q E s
theorem excK_59a : PySem.Challenge.rw_pb0475_01.row.prog = PySem.Challenge.rw_pb0475_01.row.prog → ∀ {p : Params}, ExcK (Mine.hd0.heap_1_1 p) 59 := by
  k_fill
  intro _ p
  exact ⟨⟨_, 59, 46, by k_is, rfl, rfl⟩, by k_is, by k_is, by k_is, by k_is⟩
theorem excK_59 : ∀ {p : Params}, ExcK (Mine.hd0.heap_1_1 p) 59 := excK_59a rfl
set_option hygiene false in
local macro_rules | `(tactic| walk_at "getMethod type:Exception") => return sq [tk "k_here", rf (ap "method_type" [tm "?Fr55", tm "?Xr55", tm "?mr55", byT (q `(tactic| decide +kernel)), tm "?er55", tm "?hr55", tm "?_"]), cl "Fr55 k_asm Xr55 k_asm", cs "mr55" (q `(tactic| kernel_rfl)), cs "er55" (df (tk "k_is")), cl "hr55 k_handed"]
set_option hygiene false in
local macro_rules | `(tactic| walk_at "call builtin:Exception.__init__") => return sq [tk "k_here", df (sq [rf (tm "tf_init ?Fr56 ?Xr56 ?Nr56 ?or56 ?pr56 ?_"), cl "Fr56 k_asm Xr56 k_asm Nr56 k_asm or56 assumption", cs "pr56" (ex (tm "excK_59"))]), it "h' t' F' N'"]
theorem off_exc {e C t d : Addr} {ds : Option Addr} {rest : Led} (ds' : Option Addr) (h : ∀ x ∈ (e, newExc C t ds) :: rest, x.1 < d) : ∀ x ∈ (e, newExc C t ds') :: rest, x.1 ≠ d := by
  intro x hx
  rcases List.mem_cons.mp hx with rfl | hx
  · exact Nat.ne_of_lt (h (e, newExc C t ds) List.mem_cons_self)
  · exact Nat.ne_of_lt (h x (List.mem_cons_of_mem _ hx))
set_option hygiene false in
local macro_rules | `(tactic| walk_at "setAttr ref") => return sq [tk "k_here", fi [sq [re (qt `(tf_set1 (K := Mine.hd0.heap_1_1 _) (by k_asm) (by k_asm) (by k_asm) (by assumption) excK_59 (by k_is) ?_)), it "h' d' tk' F' l1' N'", hv "off2" (ap "off_exc" [tm "some d'", tm "l1'"])], sq [re (qt `(tf_set2 (K := Mine.hd0.heap_1_1 _) (by k_asm) (by k_asm) (by k_asm) (by assumption) excK_59 (by k_is) rfl rfl (Nat.le_of_ble_eq_true rfl) ?_)), it "h' tk' F' N'"]]]
theorem init_c : ∀ {w : World} {e t : Addr} {x : Str} {k : Tok} {rest : Led} (_ : ∀ p ∈ rest, p.1 ≠ e), SpI w 59 e t (.str x k) rest := by
  intro w e t x k rest off
  unfold SpI; k_fill; intro dp un gd cn cs a ccd cl outer A₀ base h₀ L m mean mg mb s Q E B F X N T hk hdp hu hret
  refine wpAny_call ?_
  k_dflt (refine' code_def (binds := [(Str.ofString "self", .ref e), (Str.ofString "what", .str x k), (Str.ofString "at", .int (-1) 209)]) ?k1 ?k2 ?k3 ?k4 ?k5 ?kA ?kF ?kK ?k6 ?k7 ?k8 ?k9 ?kB ?_ ?c2 ?c3 ?c4 ?c5; (case kA => exact rfl); (case kF => exact rfl); (case kK => assumption); (case k1 => k_asm); (case k2 => k_asm); (case k3 => k_asm); (case k4 => k_asm); (case k5 => k_asm); (case k6 => k_is); (case k7 => k_is); (case k8 => ktr_room); (case k9 => exact binds_K (by k_in) rfl (by k_is) rfl rfl rfl); (case c5 => decide); (case kB => exact locs rfl); (case c2 => exact rfl); (case c3 => exact rfl); (case c4 => exact rfl); k_whole; intro g' L' h1' FG' F1 N1 B' X' T'; (try dsimp only); (try k_fold))
  dsimp only [List.reverse, List.reverseAux] at F1
  k_steps
  all_goals exact hret _ _ _ _ (by assumption) (newsDrop (by assumption) (fun p hp => List.mem_cons_of_mem _ hp))
theorem mk_tf : ∀ {w : World} {x : Str} {k : Tok} {news : Led}, Sp w none 6 (.ref 59) [.str x k] news (fun r nn => ∃ e t d, r = .ref e ∧ nn = [(e, newExc 59 t (some d))]) := by
  intro w x k news
  unfold Sp; k_fill; intro dp un gd cn cs a ccd cl outer A₀ base h₀ L m mean mg mb s Q E B F X N T hk hdp hu hret
  have XX := X.keeps F.keep
  obtain ⟨hp, g, d, t, os⟩ := s
  refine tf_call (C := 59) (fI := 36) (rest := [.str x k]) ?_ ?_ ?_ (XX 59 _ (by k_is)) ?_ ?_ ?_ (by size_fits)
  · decide
  · decide
  · decide
  · exact looks_findIn (X.keeps (fun b o e => Heap.get?_push_of_some _ (Heap.get?_push_of_some _ (F.keep b o e)))) (by k_is)
  · exact bind_fn (X.keeps (fun b o e => Heap.get?_push_of_some _ (Heap.get?_push_of_some _ (F.keep b o e)))) _ (by k_is)
  · have N2 := (N.push F { cls := .type "tuple", data := .seq ([Value.str x k] : List Value).toArray }).push (F.push _) (newExc 59 hp.objs.size none)
    rw [Heap.size_push] at N2
    have off : ∀ p ∈ news, p.1 ≠ hp.objs.size + 1 := fun p hp' => Nat.ne_of_lt (Nat.lt_succ_of_lt (Heap.lt_size (N p hp').1))
    exact init_c (t := hp.objs.size) off (dp + 1) (un + 1) gd cn cs a ccd cl outer A₀ base h₀ L m mean mg mb _ _ _ B ((F.push _).push _) X (newsDrop N2 (fun p hp => (List.mem_cons.mp hp).elim (fun e => e ▸ List.mem_cons_self) (fun h => List.mem_cons_of_mem _ (List.mem_cons_of_mem _ h)))) T hk (by omega) (by omega)
      (fun t' d h' tk' F' N' => ⟨rfl, hret _ [(_, newExc 59 t' (some d))] _ _ F' N' (fun q hq => by rw [List.mem_singleton.mp hq]; exact allLt_of (fun p hp' => Nat.lt_succ_of_lt (Heap.lt_size (N p hp').1))) ⟨_, t', d, rfl, rfl⟩⟩)

/-- a call that ends in an exception of class C -/
def SpX (w : World) (D : Nat) (f : Value) (vs : List Value) (news : Led) (C : Addr) : Prop :=
  ∀ (dp un : Nat) (gd : Option (List Code)) (cn : Str) (cs : Scope) (a : Addr) (ccd : Value) (cl : List (Str × Addr)) (outer : List Env) (A₀ : Around) (base h₀ : Heap) (L : Addr) (m : Str → Option Value)
    (mean : ExcName → Option Value) (mg mb : Str → Option Value) (s : Shared) (Q E : Value → Shared → Prop),
    Below A₀ base outer h₀ → Fr h₀ L s.heap m → (Mine.hd0.heap_1_1 w.params).In h₀ → News h₀ L s.heap news → Top Mine.hd0.view_1_2 (looseW Mine.hd0.view_1_2 [Str.ofString "PaperError"]) mean mg mb h₀ → cs.kind = .function →
    dp + D < recursionLimit → un + 8 * D < cLine →
    (∀ e g h' tk', Fr h₀ L g m → RaisedX base (envX cn cs L a ccd cl :: outer) e (.ref C) news h' → g.UpToSlots h' → E (.ref e) { s with heap := h', toks := tk' }) →
    wpAny (model PySem.Challenge.rw_pb0475_01.row.prog w) (ArH none dp un gd cn cs L a ccd cl outer) (call f vs) Q E s

end
section
set_option hygiene false in
local macro_rules | `(tactic| k_extra "m:P") => return sq [q `(tactic| obtain ⟨e9, t9, d9, rfl, rfl⟩ := p9), hv "offX" (qt `(fun q hq => ktn_ltOf (l9 _ List.mem_cons_self) q hq))]
set_option hygiene false in
local macro_rules | `(tactic| walk_at "exec Raise some none") => return sq [tk "k_here", df (sq [rf (qt `(tf_raise (K := Mine.hd0.heap_1_1 w.params) ?hhr59 ?_)), cs "hhr59" (ex (tm "rfl"))])]
theorem fit_bad1 : ∀ {w : World} {news : Led} {s1 e1 : Nat} {x11 x12 x13 x14 : Nat} {t1 p1 : Int} {s2 e2 : Nat} {x21 x22 x23 x24 : Nat} {t2 p2 : Int} {lz nz lr : Nat} {k3 : Tok} {pl : Int}
    (_ : (lz, listOf [Value.ref s1, Value.ref s2].toArray nz) ∈ news) (_ : (s1, instObj 155 e1) ∈ news) (_ : (e1, decD w t1 p1 x11 x12 x13 x14) ∈ news) (_ : (s2, instObj 155 e2) ∈ news) (_ : (e2, decD w t2 p2 x21 x22 x23 x24) ∈ news) (_ : t1 ≤ 0 ∨ t2 ≤ 0),
    SpX w 10 (.ref 278) [.ref lz, .ref lr, .int pl k3] news 59 := by
  intro w news s1 e1 x11 x12 x13 x14 t1 p1 s2 e2 x21 x22 x23 x24 t2 p2 lz nz lr k3 pl mz m1 m2 m3 m4 h1
  unfold SpX; k_fill; intro dp un gd cn cs a ccd cl outer A₀ base h₀ L m mean mg mb s Q E B F X N T hk hdp hu hret
  refine wpAny_call ?_
  k_dflt (refine' code_def (binds := [(Str.ofString "size", .ref lz), (Str.ofString "room", .ref lr), (Str.ofString "places", .int pl k3)]) ?k1 ?k2 ?k3 ?k4 ?k5 ?kA ?kF ?kK ?k6 ?k7 ?k8 ?k9 ?kB ?_ ?c2 ?c3 ?c4 ?c5; k_extra "m:E"; k_whole; intro g' L' h1' FG' F1 N1 B' X' T'; (try dsimp only); (try k_fold))
  dsimp only [List.reverse, List.reverseAux] at F1
  k_steps
  all_goals (refine ⟨e9, t9, 59, some d9, rfl, X'.keeps F9.keep, excK_59, (N9 _ List.mem_cons_self).1, ?_⟩)
  all_goals (refine tf_leave B' F9 N9 (fun q hq => Nat.ne_of_lt (offX q hq)) (fun h' R U => ?_))
  all_goals exact hret e9 g' h' _ FG' R U

end
section
section
variable {prog : Program} {w : World} {A₀ : Around} {E : Value → Shared → Prop} {s' : Shared} {h₀ h : Heap} {outer : List Env} {L a e C : Addr} {m : Str → Option Value} {name : Str} {scope : Scope} {cd : Value} {cl : List (Str × Addr)}
  {b₀ : Stmt} {suite : List Stmt} {pos np : Pos} {rest : List ExceptHandler} {Q : Flow → Shared → Prop} {news : Led} {KF : Frag} {p : Program} {loose : List Str} {mg mb : Str → Option Value} {x : Str}
  {nm q : Str} {N : Addr} {bs bm : List Value} {hdct : Bool} {sn : List Str} {sub : List Value} {ab : Bool} {col : Option Bool} {dd : Option Addr} {k0 k1 k2 k3 k5 : Option Value} {newId : String}
theorem tf_caught (K : Below A₀ h₀ outer h₀) (F : Fr h₀ L h m) (hsm : h.UpToSlots s'.heap) (R : RaisedX h₀ (envX name scope L a cd cl :: outer) e (.ref C) news s'.heap)
    (X : KF.In h₀) (T : TopRead p loose mg mb h₀) (ex : nsIn KF mainGlobals x = some (some (.ref C))) (hC : KF.lookup C = some (excClassObj nm q C N bs bm hdct sn sub ab col dd k0 k1 k2 k3 k5 newId)) (hbase : bm.contains (.type "BaseException") = true)
    (k : ∀ h', Fr h₀ L h' m → News h₀ L h' news →
      wpAny (model prog w) ((A₀.deeper (envX name scope L a cd cl)).mark (some (.ref e))) (execs (b₀ :: suite) (envX name scope L a cd cl)) Q E { s' with heap := h' })
    (hk : scope.kind = .function := by rfl) (hx : (envX name scope L a cd cl).kindOf x = some .globalImplicit := by rfl) (hd : (x == ("__debug__" : Str)) = false := by decide)
    (hE : PassesOwnAt (model prog w) ((A₀.deeper (envX name scope L a cd cl)).mark (some (.ref e))) (A₀.deeper (envX name scope L a cd cl)) (envX name scope L a cd cl) E) :
    wpAny (model prog w) (A₀.deeper (envX name scope L a cd cl)) (noteFrame (.ref e) (envX name scope L a cd cl))
      (fun _ s₂ => wpAny (model prog w) (A₀.deeper (envX name scope L a cd cl)) (setFlight (.ref e) none) (fun _ s₃ =>
        wpAny (model prog w) (A₀.deeper (envX name scope L a cd cl)) (handleBy (.ref e) (envX name scope L a cd cl) (.ExceptHandler (some (.Name x np)) none (b₀ :: suite) pos :: rest)) Q E s₃) E s₂) E s' := by
  obtain ⟨B, a0, hB, hl, hfl⟩ := R
  have hL : B.get? L = none := by
    obtain ⟨_, ⟨L', _, hf, hn', _⟩, _⟩ := hfl.2.2.1
    obtain rfl : L = L' := Option.some.inj hf
    exact hn'
  refine wpAny_looks_onW (Around.frames_deeper K.stack) rfl hfl fun h₄ hheld₄ hsm₄ => ?_
  refine wpAny_landsW hheld₄ fun h₅ hheld hsm₅' => ?_
  have hsm₅ := hsm₄.trans hsm₅'
  have hheld' := flyingW_base hB hheld
  have F₅ := F.of_stays hheld'.1 (hsm.trans hsm₅)
  obtain ⟨ob, hob, hobc⟩ := hheld'.there
  refine wpAny_handleBy_cons (codeAny_handlers_test (nameX_K F₅ X T ex ?_ hk hx hd)) (by intro q; cases q)
  refine wpAny_excMatches_sub_self (X.keeps F₅.keep _ _ hC) hob hobc hbase (codeAny_handlers_suite ?_)
  refine lands_againW hheld fun h₆ hfl₆ hsm₆ => ?_
  have hfl₆' := flyingW_base hB hfl₆
  have F₆ := F.of_stays hfl₆'.1 ((hsm.trans hsm₅).trans hsm₆)
  exact wpAny_passesOwnAt hE (k h₆ F₆ fun q hq => ⟨hfl₆.1 _ _ (hl q hq).1, (fun z => by have := (hl q hq).1; rw [z, hL] at this; cases this), (hl q hq).2⟩)
end

end
section
def bkN (last : Int) : Nat → List Int
  | 0 => []
  | i + 1 => bkN last i ++ [last - 2 * i, 2 * i, 2 * i + 1, last - 2 * i - 1]
theorem bkN_length (last : Int) : ∀ i, (bkN last i).length = 4 * i
  | 0 => rfl
  | i + 1 => by rw [bkN, List.length_append, bkN_length last i]; simp only [List.length_cons, List.length_nil]; omega
set_option hygiene false in
local macro_rules | `(tactic| walk_at "call builtin:list.extend") => return sq [tk "k_here", rn "Fr _ _ _ _" "lF'", rn "News _ _ _ _" "lN'", df (sq [rf (tm "ext_small lF' lN' ?ner60 ?bdr60 ?or60 ?zr60 ?_"), cs "ner60" (ex (tm "Nat.succ_ne_zero _")), cl "bdr60 k_ne or60 assumption", cs "zr60" (sq [so "List.length_cons List.length_nil", tk "omega"])]), clr "lF' lN'", it "h9 F9 N9"]
set_option hygiene false in
local macro_rules | `(tactic| walk_at "pyIter ref") => return stop
theorem booklet : ∀ {w : World} {news : Led} {c : Int} {k : Tok} (_ : 0 ≤ c) (_ : c ≤ 1000), SpW w 4 (.ref 309) [.int c k] news (fun r nw => ∃ D ys n, r = .ref D ∧ (D, listOf ys.toArray n) ∈ nw ∧ IntsAre ys ((bkN (4 * ((c + 3) / 4) - 1) ((c + 3) / 4 - 0).toNat).map fun x => if x < c then x else -1)) := by
  intro w news c k c0 c1
  unfold SpW; k_fill; intro dp un gd cn cs a ccd cl outer A₀ base h₀ L m mean mg mb s Q E B F X N T hk hdp hu hret
  refine wpAny_call ?_
  k_dflt (refine' code_defC (binds := [(Str.ofString "count", .int c k)]) ?k1 ?k2 ?k3 ?k4 ?k5 ?kA ?kF ?kK ?k6 ?k7 ?k8 ?k9 ?kB ?kD ?_ ?c2 ?c3 ?c4; (case kA => exact rfl); (case kF => exact rfl); (case kK => assumption); (case k1 => k_asm); (case k2 => k_asm); (case k3 => k_asm); (case k4 => k_asm); (case k5 => k_asm); (case k6 => k_is); (case k7 => k_is); (case k8 => ktr_room); (case k9 => exact BindsTo.of_eq rfl); (case kB => exact rfl); (case kD => decide +kernel); (case c2 => exact rfl); (case c3 => exact rfl); (case c4 => exact rfl); k_whole; intro g' L' h1' tk1 cells1 FG' F1 N1 Y1 B' X' T' l1; k_cells Y1; (try simp only [List.cons_append, List.nil_append] at N1); (try dsimp only); (try k_fold))
  k_steps
  rename Fr _ _ _ _ => lF'
  rename News _ _ _ _ => lN'
  rename IsRange _ _ _ _ _ _ _ _ => rgX
  rename _ ∧ AllLt _ _ => lD
  unfold Stop
  refine iter_fill (bkN (4 * ((c + 3) / 4) - 1)) rfl rgX (small_one (by omega) (by omega) (by omega) (by omega)) (rangeSize_nat _ _) lF' lN' .nil (fun i t vs nn h tk own hin hoff hv F' N' => ?_) (fun u vs nn h tk hv F' N' => ?_)
  · clear lF' lN'
    have offD := off_own (rest := (_, _) :: news) lD hoff
    have hlen := hv.length
    rw [bkN_length] at hlen
    generalize hR : (_ :: news) ++ own = R' at N' offD
    rw [show (0 : Int) + (i : Int) * 1 = (i : Int) by omega] at F'
    k_steps
    subst hR
    exact ⟨_, _, _, _, _ :: _ :: news, rfl, F9, N9, (fun p hp => (List.mem_cons.mp hp).elim (fun e => e ▸ List.mem_cons_of_mem _ List.mem_cons_self) (fun h => List.mem_cons_of_mem _ (List.mem_cons_of_mem _ (List.mem_append_left _ h)))),
      (fun p hp => List.mem_cons_of_mem _ (List.mem_cons_of_mem _ (List.mem_append_right _ hp))), rfl, ⟨_, _, rfl, IntsAre.append hv (.cons _ _ (.cons _ _ (.cons _ _ (.cons _ _ .nil)))), fun z hz => if_neg hz⟩⟩
  · clear lF' lN'
    k_steps
    have hz : vs.toArray.size ≤ sizeLine := by
      have hl := hv.length
      rw [bkN_length] at hl
      rw [List.size_toArray, sizeLine_eq]
      omega
    refine SrcX.lst (by exact rfl) (by k_asm) (by k_asm) List.mem_cons_self hz (fun g' => compInts hv (fun x => if x < c then x else -1) (fun k t ys I oI C oC D m₂ h tk E' hk ho hm F N off ne => ?_) (fun ys hy => ?_))
    · k_steps
      all_goals exact ⟨rfl, _, by first | rw [if_pos (by assumption)] | rw [if_neg (by assumption)]⟩
    · k_steps
      exact hret _ _ _ _ (by assumption) (by assumption) (fun p hp => List.mem_cons_of_mem _ (List.mem_cons_of_mem _ (List.mem_cons_of_mem _ hp))) ⟨_, ys, _, rfl, List.mem_cons_self, hy⟩

end
section
def rowN (ns : List Int) (size : Int) (i : Nat) : List Int := List.take (min ((i : Int) * size + size).toNat ns.length - ((i : Int) * size).toNat) (List.drop ((i : Int) * size).toNat ns)
def row2 (ns : List Int) (size : Int) (i : Nat) : List Int := rowN ns size i ++ (List.replicate (size - ((rowN ns size i).length : Int)).toNat [-1]).flatten
set_option hygiene false in
local macro_rules | `(tactic| walk_at "pyIter ref") => return stop
set_option hygiene false in
local macro_rules | `(tactic| walk_at "CompEnd") => return stop
set_option hygiene false in
local macro_rules | `(tactic| walk_at "binaryOp Add ref ref") => return sq [tk "k_here", shw (ap "binaryOp" [tm "_", tm "Value.ref _", tm "Value.ref _"]), df (sq [rf (tm "kmk_add_ints ?Fr64 ?Nr64 ?ar64 ?br64 ?ir64 ?jr64 ?_ ?zr64"), cl "Fr64 k_asm Nr64 k_asm", cs "ar64" (ex (ap "News.isList" [byT (tk "assumption"), byT (kx "m:mem")])), cs "br64" (ex (ap "News.isList" [byT (tk "assumption"), byT (kx "m:mem")])), cl "ir64 assumption jr64 assumption", cs "zr64" (sq [q `(tactic| rw [sizeLine_eq]), tk "omega"])]), it "D' ws' h' F' N' l1 hI'", tr (pw "k_lt" "l1")]
theorem grouped : ∀ {w : World} {news : Led} {li n : Nat} {vs : List Value} {ns : List Int} {size : Int} {k : Tok} (_ : (li, listOf vs.toArray n) ∈ news) (_ : IntsAre vs ns) (_ : ns.length ≤ 1000) (_ : 0 < size) (_ : size ≤ 1000), SpW w 4 (.ref 304) [.ref li, .int size k] news (fun r nw => ∃ D ys c, r = .ref D ∧ (D, listOf (List.toArray ys) c) ∈ nw ∧ Rows nw ys ((List.range (((ns.length : Int) + size - 1) / size).toNat).map (row2 ns size))) := by
  intro w news li n vs ns size k ml hi hl s0 s1
  unfold SpW; k_fill; intro dp un gd cn cs a ccd cl outer A₀ base h₀ L m mean mg mb s Q E B F X N T hk hdp hu hret
  refine wpAny_call ?_
  k_dflt (refine' code_defC (binds := [(Str.ofString "indexes", .ref li), (Str.ofString "size", .int size k)]) ?k1 ?k2 ?k3 ?k4 ?k5 ?kA ?kF ?kK ?k6 ?k7 ?k8 ?k9 ?kB ?kD ?_ ?c2 ?c3 ?c4; (case kA => exact rfl); (case kF => exact rfl); (case kK => assumption); (case k1 => k_asm); (case k2 => k_asm); (case k3 => k_asm); (case k4 => k_asm); (case k5 => k_asm); (case k6 => k_is); (case k7 => k_is); (case k8 => ktr_room); (case k9 => exact BindsTo.of_eq rfl); (case kB => exact rfl); (case kD => decide +kernel); (case c2 => exact rfl); (case c3 => exact rfl); (case c4 => exact rfl); k_whole; intro g' L' h1' tk1 cells1 FG' F1 N1 Y1 B' X' T' l1; k_cells Y1; (try simp only [List.cons_append, List.nil_append] at N1); (try dsimp only); (try k_fold))
  k_steps
  obtain ⟨z1, z2⟩ := range_zero (n := (ns.length : Int)) (c := size) (by omega) (by omega) s0 (by omega)
  have z3 : (((ns.length : Int) + size - 1) / size).toNat ≤ 2000 := by
    have := Int.ediv_le_self (b := size) (a := (ns.length : Int) + size - 1) (by omega)
    omega
  refine SrcX.rng (by exact rfl) (by k_asm) (by k_asm) rg9 z1 z2 (by rw [sizeLine_eq]; omega) (fun g' => compRows (rowN ns size) (fun i v ys nw I oI C oC D m₂ h tk E' hin hP hb ho hm F N off ne => ?_) (fun ys nw hb hy => ?_))
  · clear z1 z2 z3 hin
    obtain ⟨t, rfl⟩ := hP
    rw [show (0 : Int) + (i : Int) * size = (i : Int) * size by omega] at hm
    have hml := hb _ (List.mem_cons_of_mem _ (List.mem_cons_of_mem _ ml))
    have hm1 := hb _ List.mem_cons_self
    have hm2 := hb _ (List.mem_cons_of_mem _ List.mem_cons_self)
    have hp0 : 0 ≤ (i : Int) * size := Int.mul_nonneg (by omega) (by omega)
    k_steps
    all_goals unfold Stop
    all_goals (rename IntsAre _ (List.take _ _) => hI9)
    all_goals (rename News _ _ _ _ => N9)
    all_goals (rename Fr _ _ _ _ => F9)
    all_goals (rename _ ∧ _ ∧ _ ∧ AllLt _ nw => l9)
    all_goals exact compEnd_row F9 N9 (fun p hp => hp) ⟨l9.1, l9.2.1, l9.2.2.1⟩ off trivial hI9
  · clear z1 z2
    have hz : ys.toArray.size = (((ns.length : Int) + size - 1) / size).toNat := by
      have := hy.len
      rw [List.length_map, List.length_range] at this
      rw [List.size_toArray, this]
    k_steps
    refine SrcX.lst (by exact rfl) (by k_asm) (by k_asm) List.mem_cons_self (by rw [hz, sizeLine_eq]; omega) (fun g2 => compRows (row2 ns size) (fun i v ys2 nw2 I oI C oC D m₂ h tk E' hin hP hb2 ho hm F N off ne => ?_) (fun ys2 nw2 hb2 hy2 => ?_))
    · have hr : ((List.range (((ns.length : Int) + size - 1) / size).toNat).map (rowN ns size))[i]? = some (rowN ns size i) := by
        rw [hz] at hin
        simp [hin]
      obtain ⟨ar, vr, cr, hv, hmr, hir⟩ := hy.get hr
      have hP' : ys[i]? = some v := by simpa using hP
      rw [hv] at hP'
      cases hP'
      have hm1 := hb2 _ (List.mem_cons_of_mem _ (hb _ List.mem_cons_self))
      have hm2 := hb2 _ (List.mem_cons_of_mem _ hmr)
      have hmD := hb2 _ List.mem_cons_self
      have hrl : (rowN ns size i).length ≤ 1000 := by
        unfold rowN
        rw [List.length_take, List.length_drop]
        omega
      have hs9 : vr.toArray.size = (rowN ns size i).length := by rw [List.size_toArray, hir.length]
      clear z3 hz hin hr hv hP hl hi hmr hb hb2
      k_steps
      unfold Stop
      dsimp only
      rename IntsAre _ (_ ++ _) => hI9
      rename Fr _ _ _ _ => F9'
      rename News _ _ _ _ => N9'
      rename _ ∧ _ ∧ _ ∧ _ ∧ _ ∧ AllLt _ _ => l9
      exact compEnd_row F9' N9' (fun p hp => (List.mem_cons.mp hp).elim (fun e => e ▸ List.mem_cons_self) (fun h => List.mem_cons_of_mem _ (List.mem_cons_of_mem _ (List.mem_cons_of_mem _ h)))) ⟨l9.2.2.1, l9.2.2.2.1, l9.2.2.2.2.1⟩ off (List.mem_cons_of_mem _ hmD) hI9
    · rw [hz] at hy2
      k_steps
      exact hret _ _ _ _ (by assumption) (by assumption) (fun p hp => List.mem_cons_of_mem _ (hb2 _ (List.mem_cons_of_mem _ (hb _ (List.mem_cons_of_mem _ (List.mem_cons_of_mem _ hp)))))) ⟨_, ys2, _, rfl, List.mem_cons_self, hy2.mono fun p hp => List.mem_cons_of_mem _ hp⟩

end
section
set_option hygiene false in
local macro_rules | `(tactic| walk_at "pyIter ref") => return stop
set_option hygiene false in
local macro_rules | `(tactic| walk_at "CompEnd") => return stop
def fld1 (ns : List Int) : Nat → List Int
  | 0 => []
  | i + 1 => fld1 ns i ++ [(rowN ns 2 (2 * i)).getD 1 0, (rowN ns 2 (2 * i + 1)).getD 0 0]
def fld2 (ns : List Int) (l : Nat) : Nat → List Int
  | 0 => []
  | i + 1 => fld2 ns l i ++ [(rowN ns 2 (2 * (l - 1 - i) + 1)).getD 1 0, (rowN ns 2 (2 * (l - 1 - i))).getD 0 0]
theorem fld1_length (ns : List Int) : ∀ i, (fld1 ns i).length = 2 * i
  | 0 => rfl
  | i + 1 => by rw [fld1, List.length_append, fld1_length ns i]; simp only [List.length_cons, List.length_nil]; omega
theorem fld2_length (ns : List Int) (l : Nat) : ∀ i, (fld2 ns l i).length = 2 * i
  | 0 => rfl
  | i + 1 => by rw [fld2, List.length_append, fld2_length ns l i]; simp only [List.length_cons, List.length_nil]; omega
theorem row_two {ns : List Int} {l j : Nat} (h : ns.length = 4 * l) (hj : j < 2 * l) : (rowN ns 2 j).length = 2 := by
  have e1 : ((j : Int) * 2).toNat = 2 * j := by clear h hj; omega
  have e2 : ((j : Int) * 2 + 2).toNat = 2 * j + 2 := by clear h hj; omega
  unfold rowN
  rw [List.length_take, List.length_drop, e1, e2, h, Nat.min_eq_left (show 2 * j + 2 ≤ 4 * l by clear e1 e2 h; omega), Nat.add_sub_cancel_left]
  exact Nat.min_eq_left (by clear e1 e2 h; omega)
theorem row_item {ns : List Int} {l j k : Nat} {nw : Led} {ys : List Value} (h : ns.length = 4 * l) (hj : j < 2 * l) (hk : k < 2) (hy : Rows nw ys ((List.range (2 * l)).map (rowN ns 2))) :
    ∃ a vs n t, ys[j]? = some (.ref a) ∧ (a, listOf (List.toArray vs) n) ∈ nw ∧ vs[k]? = some (.int ((rowN ns 2 j).getD k 0) t) := by
  have hr : ((List.range (2 * l)).map (rowN ns 2))[j]? = some (rowN ns 2 j) := by simp [hj]
  obtain ⟨a, vs, n, e, m, i⟩ := hy.get hr
  have hl := row_two h hj
  obtain ⟨t, ht⟩ := i.get k ((rowN ns 2 j).getD k 0) (by rw [List.getD_eq_getElem?_getD, List.getElem?_eq_getElem (by omega)]; rfl)
  exact ⟨a, vs, n, t, e, m, ht⟩
theorem range_down {l : Nat} (hl : l ≤ 1000) : Builtin.Range.small ((2 * l : Nat) - 2 : Int) (-1) (-2) = true ∧ Builtin.Range.rangeSize ((2 * l : Nat) - 2 : Int) (-1) (-2) = (l : Int) := by
  have e : Builtin.Range.rangeSize ((2 * l : Nat) - 2 : Int) (-1) (-2) = (l : Int) := by
    unfold Builtin.Range.rangeSize
    rw [if_neg (by decide), Int.neg_neg]
    split <;> omega
  refine ⟨?_, e⟩
  unfold Builtin.Range.small
  rw [e]
  simp only [Builtin.Range.rangeFitsLong, Bool.and_eq_true, Bool.or_eq_true, decide_eq_true_eq, beq_iff_eq, show ¬ ((-2 : Int) > 0) by decide, if_false]
  omega
set_option hygiene false in
local macro_rules | `(tactic| walk_at "call builtin:list.extend") => return sq [tk "k_here", rn "Fr _ _ _ _" "lF'", rn "News _ _ _ _" "lN'", df (sq [rf (tm "ext_small lF' lN' ?ner67 ?bdr67 ?or67 ?zr67 ?_"), cs "ner67" (ex (tm "Nat.succ_ne_zero _")), cl "bdr67 k_ne or67 assumption", cs "zr67" (sq [so "List.length_cons List.length_nil", tk "omega"])]), clr "lF' lN'", it "h9 F9 N9"]
set_option hygiene false in
local macro_rules | `(tactic| walk_at "subscriptTail") => return sq [tk "k_here", df (sq [rf (tm "item_L ?Nr68 ?mr68 ?ar68 ?br68 ?xr68 ?_ ?sr68"), cl "Nr68 k_asm mr68 m:mem xr68 assumption ar68 omega br68 omega", cs "sr68" (wu (tk "rfl"))])]
theorem folded : ∀ {w : World} {news : Led} {lo n : Nat} {vs : List Value} {ns : List Int} {l : Nat} (_ : (lo, listOf vs.toArray n) ∈ news) (_ : IntsAre vs ns) (_ : ns.length = 4 * l) (_ : l ≤ 300), SpW w 4 (.ref 345) [.ref lo] news (fun r nw => ∃ D ys c, r = .ref D ∧ (D, listOf (List.toArray ys) c) ∈ nw ∧ IntsAre ys (fld1 ns l ++ fld2 ns l l)) := by
  intro w news lo n vs ns l ml hi hl s0
  unfold SpW; k_fill; intro dp un gd cn cs a ccd cl outer A₀ base h₀ L m mean mg mb s Q E B F X N T hk hdp hu hret
  refine wpAny_call ?_
  k_dflt (refine' code_defC (binds := [(Str.ofString "order", .ref lo)]) ?k1 ?k2 ?k3 ?k4 ?k5 ?kA ?kF ?kK ?k6 ?k7 ?k8 ?k9 ?kB ?kD ?_ ?c2 ?c3 ?c4; (case kA => exact rfl); (case kF => exact rfl); (case kK => assumption); (case k1 => k_asm); (case k2 => k_asm); (case k3 => k_asm); (case k4 => k_asm); (case k5 => k_asm); (case k6 => k_is); (case k7 => k_is); (case k8 => ktr_room); (case k9 => exact BindsTo.of_eq rfl); (case kB => exact rfl); (case kD => decide +kernel); (case c2 => exact rfl); (case c3 => exact rfl); (case c4 => exact rfl); k_whole; intro g' L' h1' tk1 cells1 FG' F1 N1 Y1 B' X' T' l1; k_cells Y1; (try simp only [List.cons_append, List.nil_append] at N1); (try dsimp only); (try k_fold))
  k_steps
  obtain ⟨z1, z2⟩ := range_zero (n := (ns.length : Int)) (c := 2) (by omega) (by omega) (by omega) (by omega)
  have z3 : (((ns.length : Int) + 2 - 1) / 2).toNat = 2 * l := by omega
  rw [z3] at z2
  refine SrcX.rng (by exact rfl) (by k_asm) (by k_asm) rg9 z1 z2 (by rw [sizeLine_eq]; omega) (fun g' => compRows (rowN ns 2) (fun i v ys nw I oI C oC D m₂ h tk E' hin hP hb ho hm F N off ne => ?_) (fun ys nw hb hy => ?_))
  · clear z1 z2 z3 hin
    obtain ⟨t, rfl⟩ := hP
    rw [show (0 : Int) + (i : Int) * 2 = (i : Int) * 2 by omega] at hm
    have hml := hb _ (List.mem_cons_of_mem _ ml)
    have hm2 := hb _ List.mem_cons_self
    have hp0 : 0 ≤ (i : Int) * 2 := by omega
    k_steps
    all_goals unfold Stop
    all_goals (rename IntsAre _ (List.take _ _) => hI9)
    all_goals (rename News _ _ _ _ => N9)
    all_goals (rename Fr _ _ _ _ => F9)
    all_goals (rename _ ∧ _ ∧ _ ∧ AllLt _ nw => l9)
    all_goals exact compEnd_row F9 N9 (fun p hp => hp) ⟨l9.1, l9.2.1, l9.2.2.1⟩ off trivial hI9
  · clear z1 z2
    have hz : ys.toArray.size = 2 * l := by
      have := hy.len
      rw [List.length_map, List.length_range] at this
      rw [List.size_toArray, this]
    k_steps
    unfold Stop
    rename _ ∧ AllLt _ _ => lD
    obtain ⟨z4, z5⟩ := range_zero (n := ((2 * l : Nat) : Int)) (c := 2) (by omega) (by omega) (by omega) (by omega)
    rw [show ((((2 * l : Nat) : Int) + 2 - 1) / 2).toNat = l by omega] at z5
    refine iter_fill (fld1 ns) rfl rg9 z4 z5 F9 N9 .nil (fun i t vf nn h tk own hin hoff hv F' N' => ?_) (fun u vf nn h tk hv F' N' => ?_)
    · clear F9 N9 z4 z5
      have offD := off_own (rest := (_, _) :: nw) lD hoff
      have hlen := hv.length
      rw [fld1_length] at hlen
      obtain ⟨a1, v1, c1, t1, hx1, hm1, hi1⟩ := row_item (j := 2 * i) (k := 1) hl (by omega) (by decide) hy
      obtain ⟨a2, v2, c2, t2, hx2, hm2, hi2⟩ := row_item (j := 2 * i + 1) (k := 0) hl (by omega) (by decide) hy
      rw [show 2 * i = ((i : Int) * 2).toNat by omega] at hx1
      rw [show 2 * i + 1 = ((i : Int) * 2 + 1).toNat by omega] at hx2
      rw [show (0 : Int) + (i : Int) * 2 = (i : Int) * 2 by omega] at F'
      have mm1 : ∀ p ∈ nw, p ∈ (D', LCg.lst ys) :: nw ++ own := fun p hp => List.mem_append_left own (List.mem_cons_of_mem _ hp)
      have mm2 := List.mem_append_left own (List.mem_cons_self (a := (D', LCg.lst ys)) (l := nw))
      have hm1 := mm1 _ hm1
      have hm2 := mm1 _ hm2
      clear mm1
      generalize hR : (_ :: nw) ++ own = R' at N' offD hm1 hm2 mm2
      k_steps
      subst hR
      exact ⟨_, _, _, _, _ :: _ :: nw, rfl, F9, N9, (fun p hp => (List.mem_cons.mp hp).elim (fun e => e ▸ List.mem_cons_of_mem _ List.mem_cons_self) (fun h => List.mem_cons_of_mem _ (List.mem_cons_of_mem _ (List.mem_append_left _ h)))),
        (fun p hp => List.mem_cons_of_mem _ (List.mem_cons_of_mem _ (List.mem_append_right _ hp))), rfl, ⟨_, _, rfl, IntsAre.append hv (.cons _ _ (.cons _ _ .nil)), fun z hz => if_neg hz⟩⟩
    · k_steps
      unfold Stop
      obtain ⟨z6, z7⟩ := range_down (l := l) (by omega)
      refine iter_fill (fun i => fld1 ns l ++ fld2 ns l i) rfl rg9 z6 z7 F9 N9 (by rw [fld2, List.append_nil]; exact hv) (fun i t vf nn h tk own hin hoff hv F' N' => ?_) (fun u vf nn h tk hv F' N' => ?_)
      · clear F9 N9 z4 z5 z6 z7
        have offD := off_own (rest := (_, _) :: nw) lD hoff
        have hlen := hv.length
        rw [List.length_append, fld1_length, fld2_length] at hlen
        obtain ⟨a1, v1, c1, t1, hx1, hm1, hi1⟩ := row_item (j := 2 * (l - 1 - i) + 1) (k := 1) hl (by omega) (by decide) hy
        obtain ⟨a2, v2, c2, t2, hx2, hm2, hi2⟩ := row_item (j := 2 * (l - 1 - i)) (k := 0) hl (by omega) (by decide) hy
        rw [show 2 * (l - 1 - i) + 1 = (((2 * (l - 1 - i) : Nat) : Int) + 1).toNat by omega] at hx1
        rw [show 2 * (l - 1 - i) = ((2 * (l - 1 - i) : Nat) : Int).toNat by omega] at hx2
        rw [show ((2 * l : Nat) : Int) - 2 + (i : Int) * (-2) = ((2 * (l - 1 - i) : Nat) : Int) by omega] at F'
        have mm1 : ∀ p ∈ nw, p ∈ (D', LCg.lst ys) :: nw ++ own := fun p hp => List.mem_append_left own (List.mem_cons_of_mem _ hp)
        have mm2 := List.mem_append_left own (List.mem_cons_self (a := (D', LCg.lst ys)) (l := nw))
        have hm1 := mm1 _ hm1
        have hm2 := mm1 _ hm2
        clear mm1
        generalize hR : (_ :: nw) ++ own = R' at N' offD hm1 hm2 mm2
        k_steps
        subst hR
        exact ⟨_, _, _, _, _ :: _ :: nw, rfl, F9, N9, (fun p hp => (List.mem_cons.mp hp).elim (fun e => e ▸ List.mem_cons_of_mem _ List.mem_cons_self) (fun h => List.mem_cons_of_mem _ (List.mem_cons_of_mem _ (List.mem_append_left _ h)))),
        (fun p hp => List.mem_cons_of_mem _ (List.mem_cons_of_mem _ (List.mem_append_right _ hp))), rfl, ⟨_, _, rfl, (by rw [fld2, ← List.append_assoc]; exact IntsAre.append hv (.cons _ _ (.cons _ _ .nil))), fun z hz => if_neg hz⟩⟩
      · k_steps
        exact hret _ _ _ _ (by assumption) (by assumption) (fun p hp => List.mem_cons_of_mem _ (List.mem_cons_of_mem _ (hb _ (List.mem_cons_of_mem _ hp)))) ⟨_, vf, _, rfl, List.mem_cons_self, hv⟩

end
section
section
variable {prog : Program} {w : World} {A : Around} {E : Value → Shared → Prop} {R : Result → Shared → Prop} {s : Shared}
theorem compStart_in {elt t1 i1 t2 i2 : PySem.Expr} {scope : Scope} {pos : Pos} {it acc : Value} {env : Env}
    (h0 : codeAny (model prog w) A (.compLoop (.ListComp elt [⟨t1, i1, [], 0⟩, ⟨t2, i2, [], 0⟩] scope pos) 1 it acc env) R s)
    (h : wpAny (model prog w) A (pyIter it) (fun it' s' => codeAny (model prog w) A (.compLoop (.ListComp elt [⟨t1, i1, [], 0⟩, ⟨t2, i2, [], 0⟩] scope pos) 1 it' acc env) R s')
      (notedBy (model prog w) A env fun x s' => R (.error x) s') s) :
    codeAny (model prog w) A (.compStart (.ListComp elt [⟨t1, i1, [], 0⟩, ⟨t2, i2, [], 0⟩] scope pos) 1 it acc env) R s := by
  refine codeAny_of_tree ?_
  show wpAny _ _ ((compStart (.ListComp elt [⟨t1, i1, [], 0⟩, ⟨t2, i2, [], 0⟩] scope pos) 1 it acc env).onRaise (fun x => do noteFrame x env; standAt theWindowsPlace)) _ _ s
  refine wpAny_notedAt ?_
  unfold compStart
  show wpAny _ _ (ask >>= _) _ _ s
  refine wpAny_bind (wpAny_askSetting (wpAny_ite ?_))
  split
  · first
      | exact wpAny_bind (wpAny_pure (wpAny_pure (And.intro rfl h0)))
      | exact wpAny_pure (And.intro rfl h0)
  · refine wpAny_bind (wpAny_rule ?_)
    show wpAny _ _ (standAt i2.pos >>= _) _ _ s
    exact wpAny_bind (wpAny_standAt (wpAny_bind (wpAny_mono h (fun it' s' h' => wpAny_pure (And.intro rfl h')) fun _ _ x => x)))
theorem compTurn_in (elt t1 i1 t2 i2 : PySem.Expr) (scope : Scope) (pos : Pos) (it acc : Value) (env : Env) :
    compTurn (.ListComp elt [⟨t1, i1, [], 0⟩, ⟨t2, i2, [], 0⟩] scope pos) 1 it acc env = (standAt i2.pos >>= fun _ => pyNext it >>= fun r => match r with
      | none => pure (.done .next)
      | some v => letOwnedTupleGo t2 it v >>= fun _ => assign t2 env v >>= fun _ =>
        (eval elt env >>= fun x => call (.builtin "list.append") [acc, x] >>= fun _ => pure ()) >>= fun _ =>
          again (.compLoop (.ListComp elt [⟨t1, i1, [], 0⟩, ⟨t2, i2, [], 0⟩] scope pos) 1 it acc env)) := by rfl
theorem compTurn_out (elt t1 i1 t2 i2 : PySem.Expr) (scope : Scope) (pos : Pos) (it acc : Value) (env : Env) :
    compTurn (.ListComp elt [⟨t1, i1, [], 0⟩, ⟨t2, i2, [], 0⟩] scope pos) 0 it acc env = (standAt i1.pos >>= fun _ => pyNext it >>= fun r => match r with
      | none => pure (.done .next)
      | some v => letOwnedTupleGo t1 it v >>= fun _ => assign t1 env v >>= fun _ =>
        eval i2 env >>= fun x => standAt i2.pos >>= fun _ => foldedSetIterable i2 env x >>= fun x => holding [x] (pyIter x) >>= fun y =>
          runOwn (.compStart (.ListComp elt [⟨t1, i1, [], 0⟩, ⟨t2, i2, [], 0⟩] scope pos) 1 y acc env) env >>= fun _ =>
          again (.compLoop (.ListComp elt [⟨t1, i1, [], 0⟩, ⟨t2, i2, [], 0⟩] scope pos) 0 it acc env)) := by rfl
theorem flat_inner {x1 x2 : Str} {i1 : PySem.Expr} {pe p1 p2 p3 : Pos} {scope : Scope} {pos : Pos} {I2 ax D C : Addr} {cenv : Env} {its : Array Value} {ys : List Value} {m₀ : Str → Option Value}
    (hh : A.handled = none) (hC : cenv.locals = C) (hx : cenv.kindOf x2 = some .local) (hk : cenv.scope.kind = .function) (hd : (x2 == ("__debug__" : Str)) = false)
    (n1 : ax ≠ I2) (n2 : D ≠ I2) (n3 : D ≠ ax) (n4 : C ≠ I2) (n5 : C ≠ D) (n6 : C ≠ ax)
    (hit : s.heap.IsListIter I2 ax 0) (hl : s.heap.IsList ax its) (hD : s.heap.get? D = some (LCg.lst ys)) (hn : s.heap.Ns C m₀) (hsz : ys.length + its.size ≤ 10000)
    (hR : ∀ h' tk m', h'.Ns C m' → h'.get? D = some (LCg.lst (ys ++ its.toList)) → (∀ b o, b ≠ C → b ≠ I2 → b ≠ D → s.heap.get? b = some o → h'.get? b = some o) → R (.ok .next) { s with heap := h', toks := tk }) :
    codeAny (model prog w) A (.compLoop (.ListComp (.Name x2 pe) [⟨.Name x1 p1, i1, [], 0⟩, ⟨.Name x2 p2, .Name x1 p3, [], 0⟩] scope pos) 1 (.ref I2) (.ref D) cenv) R s := by
  subst hC
  have W := Walks.list (prog := prog) (w := w) hh I2 ax n1 its
  refine codeAny_loop rfl
    (fun k s' => ∃ h' tk j m', s' = { s with heap := h', toks := tk } ∧ j ≤ its.size ∧ k = its.size + 1 - j ∧ (h'.IsListIter I2 ax j ∧ h'.IsList ax its) ∧ h'.Ns cenv.locals m' ∧ h'.get? D = some (LCg.lst (ys ++ its.toList.take j)) ∧
      (∀ b o, b ≠ cenv.locals → b ≠ I2 → b ≠ D → s.heap.get? b = some o → h'.get? b = some o)) ?_ (its.size + 1) ⟨s.heap, s.toks, 0, m₀, rfl, Nat.zero_le _, rfl, ⟨hit, hl⟩, hn, by simpa using hD, fun _ _ _ _ _ e => e⟩
  rintro k s' ⟨h', tk, j, m', rfl, hj, rfl, hst, hn', hD', hkeep⟩
  show wpAny _ A ((compTurn (.ListComp (.Name x2 pe) [⟨.Name x1 p1, i1, [], 0⟩, ⟨.Name x2 p2, .Name x1 p3, [], 0⟩] scope pos) 1 (.ref I2) (.ref D) cenv).onRaise (fun x => do noteFrame x cenv; theTreesLotGoes x)) _ _ _
  refine wpAny_noted ?_
  rw [compTurn_in]
  refine wpAny_bind (wpAny_standAt (wpAny_bind ?_))
  by_cases hlt : j < its.size
  · refine W.item j _ _ _ hlt hst fun v h₂ tk₂ hPv hst₂ hk₂ => ?_
    refine wpAny_bind (wpAny_of_eq (show letOwnedTupleGo (.Name x2 p2) (.ref I2) v = pure () from rfl) ?_)
    refine wpAny_bind (wpAny_assign_Name (wpAny_storeName_local hx (hn'.at' fun o e => hk₂ _ o (by simpa using n4) e) (fun h₃ hn₃ hs₃ => ?_) (by rw [hk]; rfl)))
    have hst₃ : h₃.IsListIter I2 ax (j + 1) ∧ h₃.IsList ax its := W.frame _ _ _ hst₂ fun b hb o e => hs₃.extBut b o (fun q => by
      rcases List.mem_cons.mp hb with h | h
      · exact n4 (q.symm.trans h)
      · exact n6 (q.symm.trans (List.mem_singleton.mp h))) e
    have hD₃ : h₃.get? D = some (LCg.lst (ys ++ its.toList.take j)) := hs₃.extBut _ _ (Ne.symm n5) (hk₂ _ _ (by simpa using n2) hD')
    refine wpAny_bind (wpAny_bind (wpAny_Name (wpAny_loadName_local hk hx hn₃ (v := v) (if_pos rfl) ?_) hd))
    refine wpAny_bind (append_at (hsz := by rw [List.size_toArray, List.length_append, List.length_take, sizeLine_eq]; omega) hD₃ fun h₅ hs₅ hD₅ => ?_)
    refine wpAny_pure (wpAny_pure ⟨rfl, its.size + 1 - (j + 1), by omega, h₅, _, j + 1, _, rfl, hlt, rfl, W.frame _ _ _ hst₃ fun b hb o e => hs₅.extBut b o (fun q => by
      rcases List.mem_cons.mp hb with h | h
      · exact n2 (q.symm.trans h)
      · exact n3 (q.symm.trans (List.mem_singleton.mp h))) e, hn₃.sameBut hs₅ n5, ?_, fun b o b1 b2 b3 e => ?_⟩)
    · refine hD₅.trans (congrArg some ?_)
      rw [LCg.lst_snoc, List.take_add_one]
      have : its.toList[j]? = some v := by simpa using hPv
      rw [this, List.append_assoc]
      rfl
    · exact hs₅.extBut b o b3 (hs₃.extBut b o b1 (hk₂ b o (by simpa using b2) (hkeep b o b1 b2 b3 e)))
  · obtain rfl : j = its.size := Nat.le_antisymm hj (Nat.not_lt.mp hlt)
    refine W.done _ _ _ hst fun h₂ tk₂ hk₂ => ?_
    refine wpAny_pure ?_
    refine hR h₂ tk₂ _ (hn'.at' fun o e => hk₂ _ o (by simpa using n4) e) ?_ fun b o b1 b2 b3 e => hk₂ b o (by simpa using b2) (hkeep b o b1 b2 b3 e)
    rw [← Array.length_toList, List.take_length] at hD'
    exact hk₂ _ _ (by simpa using n2) hD'
theorem flat_outer {x1 x2 : Str} {i1 : PySem.Expr} {pe p1 p2 p3 : Pos} {scope : Scope} {pos : Pos} {I ax D C : Addr} {cenv : Env} {items : Array Value} {rows : List (List Value)} {m₀ : Str → Option Value}
    (hh : A.handled = none) (hC : cenv.locals = C) (hx1 : cenv.kindOf x1 = some .local) (hx : cenv.kindOf x2 = some .local) (hk : cenv.scope.kind = .function) (hd1 : (x1 == ("__debug__" : Str)) = false) (hd : (x2 == ("__debug__" : Str)) = false)
    (n1 : ax ≠ I) (n2 : D ≠ I) (n3 : D ≠ ax) (n4 : C ≠ I) (n5 : C ≠ D) (n6 : C ≠ ax) (hsm : items.size = rows.length)
    (hrow : ∀ (i : Nat) (r : List Value), rows[i]? = some r → ∃ a : Addr, items[i]? = some (Value.ref a) ∧ s.heap.IsList a r.toArray ∧ a ≠ I ∧ a ≠ D ∧ a ≠ C) (hsz : rows.flatten.length ≤ 10000)
    (hit : s.heap.IsListIter I ax 0) (hl : s.heap.IsList ax items) (hD : s.heap.get? D = some (LCg.lst [])) (hn : s.heap.Ns C m₀)
    (hR : ∀ h' tk m', h'.Ns C m' → h'.get? D = some (LCg.lst rows.flatten) → (∀ b o, b ≠ C → b ≠ I → b ≠ D → s.heap.get? b = some o → h'.get? b = some o) → R (.ok .next) { s with heap := h', toks := tk }) :
    codeAny (model prog w) A (.compLoop (.ListComp (.Name x2 pe) [⟨.Name x1 p1, i1, [], 0⟩, ⟨.Name x2 p2, .Name x1 p3, [], 0⟩] scope pos) 0 (.ref I) (.ref D) cenv) R s := by
  subst hC
  have W := Walks.list (prog := prog) (w := w) hh I ax n1 items
  refine codeAny_loop rfl
    (fun k s' => ∃ h' tk j m', s' = { s with heap := h', toks := tk } ∧ j ≤ items.size ∧ k = items.size + 1 - j ∧ (h'.IsListIter I ax j ∧ h'.IsList ax items) ∧ h'.Ns cenv.locals m' ∧ h'.get? D = some (LCg.lst (rows.take j).flatten) ∧
      (∀ b o, b ≠ cenv.locals → b ≠ I → b ≠ D → s.heap.get? b = some o → h'.get? b = some o)) ?_ (items.size + 1) ⟨s.heap, s.toks, 0, m₀, rfl, Nat.zero_le _, rfl, ⟨hit, hl⟩, hn, by simpa using hD, fun _ _ _ _ _ e => e⟩
  rintro k s' ⟨h', tk, j, m', rfl, hj, rfl, hst, hn', hD', hkeep⟩
  show wpAny _ A ((compTurn (.ListComp (.Name x2 pe) [⟨.Name x1 p1, i1, [], 0⟩, ⟨.Name x2 p2, .Name x1 p3, [], 0⟩] scope pos) 0 (.ref I) (.ref D) cenv).onRaise (fun x => do noteFrame x cenv; theTreesLotGoes x)) _ _ _
  refine wpAny_noted ?_
  rw [compTurn_out]
  refine wpAny_bind (wpAny_standAt (wpAny_bind ?_))
  by_cases hlt : j < items.size
  · refine W.item j _ _ _ hlt hst fun v h₂ tk₂ hPv hst₂ hk₂ => ?_
    obtain ⟨a, ha, hla, e1, e2, e3⟩ := hrow j rows[j] (by simp [hsm ▸ hlt])
    rw [ha] at hPv
    cases hPv
    refine wpAny_bind (wpAny_of_eq (show letOwnedTupleGo (.Name x1 p1) (.ref I) (.ref a) = pure () from rfl) ?_)
    refine wpAny_bind (wpAny_assign_Name (wpAny_storeName_local hx1 (hn'.at' fun o e => hk₂ _ o (by simpa using n4) e) (fun h₃ hn₃ hs₃ => ?_) (by rw [hk]; rfl)))
    have hst₃ : h₃.IsListIter I ax (j + 1) ∧ h₃.IsList ax items := W.frame _ _ _ hst₂ fun b hb o e => hs₃.extBut b o (fun q => by
      rcases List.mem_cons.mp hb with h | h
      · exact n4 (q.symm.trans h)
      · exact n6 (q.symm.trans (List.mem_singleton.mp h))) e
    have hD₃ : h₃.get? D = some (LCg.lst (rows.take j).flatten) := hs₃.extBut _ _ (Ne.symm n5) (hk₂ _ _ (by simpa using n2) hD')
    have keep₃ : ∀ b o, b ≠ cenv.locals → b ≠ I → b ≠ D → s.heap.get? b = some o → h₃.get? b = some o := fun b o b1 b2 b3 e => hs₃.extBut b o b1 (hk₂ b o (by simpa using b2) (hkeep b o b1 b2 b3 e))
    have hla₃ : h₃.IsList a rows[j].toArray := hla.at fun o e => keep₃ a o e3 e1 e2 e
    refine wpAny_bind (wpAny_Name (wpAny_loadName_local hk hx1 hn₃ (v := .ref a) (if_pos rfl) ?_) hd1)
    refine wpAny_bind (wpAny_standAt (wpAny_bind (wpAny_of_eq (show foldedSetIterable (.Name x1 p3) cenv (.ref a) = pure (.ref a) from rfl) ?_)))
    refine wpAny_bind (wpAny_holding (wpAny_pyIter_list hla₃ ?_))
    have up : ∀ b o, h₃.get? b = some o → (h₃.push { cls := .type "list_iterator", data := .fields #[.ref a, .int 0 0] }).get? b = some o := fun b o e => Heap.get?_push_of_some _ e
    have new : ∀ b o, h₃.get? b = some o → b ≠ h₃.objs.size := fun b o e => Nat.ne_of_lt (Heap.lt_size e)
    obtain ⟨oa, ea, _⟩ := id hla₃
    obtain ⟨oC, _, _, eC, _⟩ := id hn₃
    obtain ⟨oI, eI, _⟩ := id hst₃.1
    obtain ⟨ox, ex, _⟩ := id hst₃.2
    have hlen : (rows.take j).flatten.length + rows[j].length ≤ 10000 := by
      refine Nat.le_trans ?_ hsz
      have hjl : j < rows.length := hsm ▸ hlt
      have h1 : rows.flatten = (rows.take j).flatten ++ (rows[j] ++ (rows.drop (j + 1)).flatten) := by
        rw [← List.flatten_cons, ← List.flatten_append, List.getElem_cons_drop, List.take_append_drop]
      rw [h1]
      simp only [List.length_append]
      omega
    refine wpAny_bind (wpAny_runOwn (compStart_in ?_ (wpAny_pyIter_listiter ⟨_, Heap.get?_push_size _ rfl, rfl, rfl⟩ ?_)))
    all_goals
      refine flat_inner (its := rows[j].toArray) (ys := (rows.take j).flatten) hh rfl hx hk hd (new a oa ea) (new D _ hD₃) (Ne.symm e2) (new _ _ eC) n5 (Ne.symm e3) ⟨_, Heap.get?_push_size _ rfl, rfl, rfl⟩ (hla₃.at fun o e => up _ o e) (up _ _ hD₃) (hn₃.at' fun o e => up _ o e)
        (by rw [List.size_toArray]; exact hlen) (fun h₆ tk₆ m₆ hn₆ hD₆ hk₆ => ?_)
      have back : ∀ b o, b ≠ cenv.locals → b ≠ D → h₃.get? b = some o → h₆.get? b = some o := fun b o b1 b2 e => hk₆ b o b1 (new b o e) b2 (up b o e)
      refine wpAny_pure ⟨rfl, items.size + 1 - (j + 1), by omega, h₆, tk₆, j + 1, m₆, rfl, hlt, rfl, ⟨hst₃.1.at fun o e => back I o (Ne.symm n4) (Ne.symm n2) e, hst₃.2.at fun o e => back ax o (Ne.symm n6) (Ne.symm n3) e⟩, hn₆, ?_, fun b o b1 b2 b3 e => back b o b1 b3 (keep₃ b o b1 b2 b3 e)⟩
      refine hD₆.trans (congrArg (fun l => some (LCg.lst l)) ?_)
      rw [List.take_add_one, List.getElem?_eq_getElem (hsm ▸ hlt), List.flatten_append]
      simp only [Option.toList, List.flatten_cons, List.flatten_nil, List.append_nil]
  · obtain rfl : j = items.size := Nat.le_antisymm hj (Nat.not_lt.mp hlt)
    refine W.done _ _ _ hst fun h₂ tk₂ hk₂ => ?_
    refine wpAny_pure ?_
    refine hR h₂ tk₂ _ (hn'.at' fun o e => hk₂ _ o (by simpa using n4) e) ?_ fun b o b1 b2 b3 e => hk₂ b o (by simpa using b2) (hkeep b o b1 b2 b3 e)
    rw [hsm, List.take_length] at hD'
    exact hk₂ _ _ (by simpa using n2) hD'
end

end
section
section
variable {prog : Program} {w : World} {A : Around} {E : Value → Shared → Prop} {s : Shared} {h₀ : Heap} {L : Addr} {m : Str → Option Value} {env : Env}
/-- the source of [b for a in xs for b in a]: a list of lists -/
def SrcF (A : Around) (h₀ : Heap) (L : Addr) (m : Str → Option Value) (y : Str) (Q : Flow → Shared → Prop) (xv : Value) (s₁ : Shared) : Prop :=
  ∃ (ax : Addr) (its : Array Value) (n : Nat) (news : Led) (rows : List (List Value)), xv = .ref ax ∧ A.handled = none ∧ Fr h₀ L s₁.heap m ∧ News h₀ L s₁.heap news ∧ (ax, listOf its n) ∈ news ∧ its.size = rows.length ∧
    (∀ (i : Nat) (r : List Value), rows[i]? = some r → ∃ (a : Addr) (c : Nat), its[i]? = some (Value.ref a) ∧ (a, listOf r.toArray c) ∈ news) ∧ rows.flatten.length ≤ 10000 ∧
    (∀ D h' tk, Fr h₀ L h' (fun z => if z = y then some (.ref D) else m z) → News h₀ L h' ((D, LCg.lst rows.flatten) :: news) → Q .next { s₁ with heap := h', toks := tk })
theorem Assign_flat {iter : PySem.Expr} {x1 x2 y : Str} {pe p1 p2 p3 py : Pos} {scope : Scope} {pos spos : Pos} {Q : Flow → Shared → Prop} (hLe : env.locals = L)
    (hsw : swapsWith (.ListComp (.Name x2 pe) [⟨.Name x1 p1, iter, [], 0⟩, ⟨.Name x2 p2, .Name x1 p3, [], 0⟩] scope pos) (some (.Name y py)) spos.line env = pure true)
    (hclos : closureFor scope env = pure []) (hcell : ∀ z ∈ scope.names, z.2 ≠ .cell) (hkind : scope.kind = .function)
    (hnames : ∀ z ∈ scope.names, z.2 = .local → scope.names.lookup z.1 = some .local) (hx1 : scope.names.lookup x1 = some .local) (hx2 : scope.names.lookup x2 = some .local)
    (hy : env.kindOf y = some .local) (hp : (env.scope.kind == .class || (env.scope.kind == .module && env.locals != env.globals)) = false) (hd1 : (x1 == ("__debug__" : Str)) = false) (hd2 : (x2 == ("__debug__" : Str)) = false)
    (h : wpAny (model prog w) A (eval iter env) (SrcF A h₀ L m y Q) E s)
    (hs : ∀ x, foldedSetIterable iter env x = pure x := by intro _; rfl) :
    wpAny (model prog w) A (exec (.Assign [.Name y py] (.ListComp (.Name x2 pe) [⟨.Name x1 p1, iter, [], 0⟩, ⟨.Name x2 p2, .Name x1 p3, [], 0⟩] scope pos) spos) env) Q E s := by
  subst hLe
  rw [exec_Assign_Name_used _ _ _ _ hsw]
  refine wpAny_bind (wpAny_standAt (wpAny_bind ?_))
  show wpAny _ A (do let _ ← comprehension (.ListComp (.Name x2 pe) [⟨.Name x1 p1, iter, [], 0⟩, ⟨.Name x2 p2, .Name x1 p3, [], 0⟩] scope pos) scope env _ (newList []) false (eval iter env) (some (assign (.Name y py) env))) _ _ s
  refine wpAny_bind (wpAny_mono (wpAny_comprehension_free (use := some (assign (.Name y py) env)) (Q := fun _ s' => Q .next s') rfl hs hclos hkind hnames
    (wpAny_mono h (fun xv s₁ h₁ => ?_) fun _ _ e => e)) (fun _ s' hq => wpAny_pure (wpAny_pure hq)) fun _ _ e => e)
  obtain ⟨ax, its, n, news, rows, rfl, hh, F, N, hm, hsm, hrow, hsz, fin⟩ := h₁
  have hl : s₁.heap.IsList ax its := ⟨_, (N _ hm).1, rfl, n, rfl⟩
  refine wpAny_pyIter_list hl ?_
  generalize hS2 : s₁.heap.push { cls := .type "list_iterator", data := .fields #[.ref ax, .int 0 0] } = S2
  have up1 : ∀ b o, s₁.heap.get? b = some o → S2.get? b = some o := fun b o e => hS2 ▸ Heap.get?_push_of_some _ e
  have zI : S2.get? s₁.heap.objs.size = some { cls := .type "list_iterator", data := .fields #[.ref ax, .int 0 0] } := hS2 ▸ Heap.get?_push_size _ rfl
  refine wpAny_newObj_type (wpAny_newFunctionEnv hcell (by intro y hy; simp at hy) (fun h₁ hns₁ hsb₁ => ?_) hkind)
  dsimp only at hns₁ hsb₁ ⊢
  generalize hH2 : S2.push { cls := .type "list", dict := none, data := .seq ([] : List Value).toArray } = H2 at hns₁ hsb₁ ⊢
  have sz2 : S2.objs.size = s₁.heap.objs.size + 1 := by rw [← hS2, Heap.size_push]
  have szC : H2.objs.size = S2.objs.size + 1 := by rw [← hH2, Heap.size_push]
  have old : ∀ b o, S2.get? b = some o → h₁.get? b = some o := fun b o e => hsb₁.extBut b o (neN (by have h9 : @LT.lt Nat _ b S2.objs.size := Heap.lt_size e; rw [szC]; omega)) (Heap.get?_push_of_some _ (hH2 ▸ Heap.get?_push_of_some _ e))
  have old1 : ∀ b o, s₁.heap.get? b = some o → h₁.get? b = some o := fun b o e => old b o (up1 b o e)
  have hacc : h₁.get? S2.objs.size = some (LCg.lst []) := hsb₁.extBut _ _ (neN (by rw [szC]; omega)) (Heap.get?_push_of_some _ (hH2 ▸ Heap.get?_push_size _ rfl))
  have fresh₀ : ∀ a : Addr, @LE.le Nat _ s₁.heap.objs.size a → h₀.get? a = none := fun a ha => by
    cases e : h₀.get? a with
    | none => rfl
    | some o' => have h9 : @LT.lt Nat _ a s₁.heap.objs.size := Heap.lt_size (F.keep a o' e); omega
  have hLlt : @LT.lt Nat _ env.locals s₁.heap.objs.size := F.ns.lt
  have lts : ∀ p ∈ news, @LT.lt Nat _ p.1 s₁.heap.objs.size := fun p hp => Heap.lt_size (N p hp).1
  have hax : @LT.lt Nat _ ax s₁.heap.objs.size := lts _ hm
  have main : ∀ s₃ : Shared, s₃ = { s₁ with heap := h₁, toks := s₁.toks + ([] : List (Str × Value)).length } →
      codeAny (model prog w) A (.compLoop (.ListComp (.Name x2 pe) [⟨.Name x1 p1, iter, [], 0⟩, ⟨.Name x2 p2, .Name x1 p3, [], 0⟩] scope pos) 0 (.ref s₁.heap.objs.size) (.ref S2.objs.size) (compEnvC scope [] H2.objs.size env))
        (compPost (model prog w) A E (some (assign (.Name y py) env)) (fun _ s' => Q .next s') (.ref S2.objs.size) H2.objs.size) s₃ := by
    rintro s₃ rfl
    refine flat_outer (C := H2.objs.size) (ax := ax) (items := its) (rows := rows) hh rfl (lookup_relabel_local hx1) (lookup_relabel_local hx2) (by simp [compEnvC, relabel, hkind]) hd1 hd2 (neN (by omega)) (neN (by omega)) (neN (by omega)) (neN (by omega)) (neN (by omega)) (neN (by omega)) hsm (fun i r hr => ?_) hsz
      ⟨_, old _ _ zI, rfl, rfl⟩ (hl.at fun o e => old1 _ o e) hacc hns₁ (fun h' tk m' hn hD hk => ?_)
    · obtain ⟨a, c, h1, h2⟩ := hrow i r hr
      have this : @LT.lt Nat _ a s₁.heap.objs.size := lts _ h2
      exact ⟨a, h1, ⟨_, old1 _ _ (N _ h2).1, rfl, c, rfl⟩, neN (by omega), neN (by omega), neN (by omega)⟩
    · have back : ∀ b o, s₁.heap.get? b = some o → h'.get? b = some o := fun b o e => by
        have h9 : @LT.lt Nat _ b s₁.heap.objs.size := Heap.lt_size e
        exact hk b o (neN (by omega)) (neN (by omega)) (neN (by omega)) (old1 b o e)
      have F' : Fr h₀ env.locals h' m := ⟨F.ns.at' fun o e => back _ o e, fun b o e => back b o (F.keep b o e), F.above⟩
      have N' : News h₀ env.locals h' ((S2.objs.size, LCg.lst rows.flatten) :: news) := fun p hp => by
        rcases List.mem_cons.mp hp with rfl | hp
        · exact ⟨hD, neN (by dsimp only; omega), fresh₀ _ (by dsimp only; omega)⟩
        · exact ⟨back _ _ (N p hp).1, (N p hp).2⟩
      show wpAny _ A (assign (.Name y py) env (.ref S2.objs.size)) _ _ _
      refine wpAny_assign_Name (wpAny_storeName_local hy F'.ns (fun h₂ hn₂ hs₂ => ?_) hp)
      have hL₀ : h₀.get? env.locals = none := Heap.get?_none_of_le F'.above
      have F₂ : Fr h₀ env.locals h₂ (fun z => if z = y then some (.ref S2.objs.size) else m z) := ⟨hn₂, fun b o e => hs₂.extBut b o (fun q => by rw [q, hL₀] at e; cases e) (F'.keep b o e), F'.above⟩
      have hCL : H2.objs.size ≠ env.locals := neN (by omega)
      have hC₀ := fresh₀ H2.objs.size (by omega)
      refine ⟨m', hn.sameBut hs₂ hCL, fun h'' hs'' => fin _ h'' _ (F₂.change hs'' hCL hC₀) (fun p hp => ?_)⟩
      have z : h₂.get? p.1 = some p.2 := hs₂.extBut _ _ (N' p hp).2.1 (N' p hp).1
      refine ⟨hs''.extBut _ _ ?_ z, (N' p hp).2⟩
      rcases List.mem_cons.mp hp with rfl | hp
      · show S2.objs.size ≠ H2.objs.size
        exact neN (by omega)
      · have := lts p hp
        exact neN (by omega)
  exact codeAny_compStart_list (main _ rfl) (wpAny_pyIter_listiter ⟨_, old _ _ zI, rfl, rfl⟩ (main _ rfl))
end

end
section
def orderN (c : Int) : List Int := (bkN (4 * ((c + 3) / 4) - 1) ((c + 3) / 4 - 0).toNat).map (fun x => if x < c then x else -1)
theorem p1n : ∀ n : Fin 61, fld1 (orderN (n.val : Int)) (((n.val : Int) + 3) / 4 - 0).toNat ++ fld2 (orderN (n.val : Int)) (((n.val : Int) + 3) / 4 - 0).toNat (((n.val : Int) + 3) / 4 - 0).toNat
    = rangeKs 0 ((n.val : Int) - 0).toNat ++ (List.replicate (((4 * (((n.val : Int) + 3) / 4 - 0).toNat : Nat) : Int) - (n.val : Int)).toNat [-1]).flatten := by decide +kernel
theorem p1 {c : Int} (h0 : 0 ≤ c) (h1 : c < 61) {l : Nat} {ns : List Int} (hl : l = ((c + 3) / 4 - 0).toNat) (hn : ns = (bkN (4 * ((c + 3) / 4) - 1) ((c + 3) / 4 - 0).toNat).map (fun x => if x < c then x else -1)) :
    fld1 ns l ++ fld2 ns l l = rangeKs 0 (c - 0).toNat ++ (List.replicate (((4 * l : Nat) : Int) - c).toNat [-1]).flatten := by
  obtain ⟨n, rfl⟩ := Int.eq_ofNat_of_zero_le h0
  subst hl hn
  exact p1n ⟨n, by omega⟩
def rows2 (c size : Int) : List (List Int) := (List.range (((((rangeKs 0 (c - 0).toNat).length : Nat) : Int) + size - 1) / size).toNat).map (row2 (rangeKs 0 (c - 0).toNat) size)
theorem rowN_eq {ks : List Int} {z i : Nat} : rowN ks (z : Int) i = List.take z (List.drop (i * z) ks) := by
  have e1 : ((i : Int) * (z : Int)).toNat = i * z := by rw [← Int.natCast_mul, Int.toNat_natCast]
  have e2 : ((i : Int) * (z : Int) + (z : Int)).toNat = i * z + z := by rw [← Int.natCast_mul, ← Int.natCast_add, Int.toNat_natCast]
  unfold rowN
  rw [e1, e2]
  rcases Nat.le_total (i * z + z) ks.length with h | h
  · rw [Nat.min_eq_left h, Nat.add_sub_cancel_left]
  · rw [Nat.min_eq_right h, List.take_of_length_le (by rw [List.length_drop]; exact Nat.le_refl _), List.take_of_length_le (by rw [List.length_drop]; omega)]
theorem rows_flat {ks : List Int} {z : Nat} : ∀ k, ((List.range k).map (rowN ks (z : Int))).flatten = ks.take (k * z)
  | 0 => by rw [Nat.zero_mul]; rfl
  | k + 1 => by
    rw [List.range_succ, List.map_append, List.flatten_append, rows_flat k, List.map_singleton, List.flatten_singleton, rowN_eq, Nat.succ_mul, List.take_add]
theorem flat_one (n : Nat) : (List.replicate n [(-1 : Int)]).flatten = List.replicate n (-1) := by
  induction n with
  | zero => rfl
  | succ n ih => rw [List.replicate_succ, List.flatten_cons, ih]; rfl
theorem rowN_full {ks : List Int} {z i : Nat} (h : i * z + z ≤ ks.length) : row2 ks (z : Int) i = rowN ks (z : Int) i ∧ (row2 ks (z : Int) i).length = z := by
  have e : (rowN ks (z : Int) i).length = z := by rw [rowN_eq, List.length_take, List.length_drop]; omega
  have e2 : row2 ks (z : Int) i = rowN ks (z : Int) i := by
    unfold row2
    rw [e, Int.sub_self]
    exact List.append_nil _
  exact ⟨e2, e2 ▸ e⟩
theorem rowN_last {ks : List Int} {z i : Nat} (h : ks.length ≤ i * z + z) (h2 : i * z ≤ ks.length) : row2 ks (z : Int) i = rowN ks (z : Int) i ++ List.replicate (i * z + z - ks.length) (-1) ∧ (row2 ks (z : Int) i).length = z := by
  have e : (rowN ks (z : Int) i).length = ks.length - i * z := by rw [rowN_eq, List.length_take, List.length_drop]; omega
  have e2 : row2 ks (z : Int) i = rowN ks (z : Int) i ++ List.replicate (i * z + z - ks.length) (-1) := by
    unfold row2
    rw [e, flat_one]
    congr 2
    omega
  refine ⟨e2, ?_⟩
  rw [e2, List.length_append, e, List.length_replicate]
  omega
/-- the groups of a list: its numbers in order, the last group filled up -/
theorem rows2_law {ks : List Int} {z k : Nat} (h1 : ks.length ≤ k * z) (h2 : k * z < ks.length + z) :
    ((List.range k).map (row2 ks (z : Int))).flatten = ks ++ List.replicate (k * z - ks.length) (-1) ∧ ∀ r ∈ (List.range k).map (row2 ks (z : Int)), r.length = z := by
  cases k with
  | zero =>
    have : ks = [] := List.eq_nil_of_length_eq_zero (by omega)
    subst this
    exact ⟨by simp, fun r h => by cases h⟩
  | succ j =>
    rw [Nat.succ_mul] at h1 h2
    have full : ∀ i ∈ List.range j, row2 ks (z : Int) i = rowN ks (z : Int) i ∧ (row2 ks (z : Int) i).length = z := fun i hi => by
      have hi2 := Nat.mul_le_mul_right z (List.mem_range.mp hi)
      rw [Nat.succ_mul] at hi2
      exact rowN_full (by omega)
    obtain ⟨l1, l2⟩ := rowN_last (ks := ks) (z := z) (i := j) h1 (by omega)
    refine ⟨?_, fun r hr => ?_⟩
    · rw [List.range_succ, List.map_append, List.flatten_append, List.map_congr_left fun i hi => (full i hi).1, rows_flat j, List.map_singleton, List.flatten_singleton, l1, rowN_eq, ← List.append_assoc, ← List.take_add, Nat.succ_mul, List.take_of_length_le h1]
    · obtain ⟨i, hi, rfl⟩ := List.mem_map.mp hr
      rw [List.mem_range] at hi
      rcases Nat.lt_or_ge i j with h | h
      · exact (full i (List.mem_range.mpr h)).2
      · obtain rfl : i = j := by omega
        exact l2
theorem p2n (n k : Nat) : (rows2 (n : Int) ((k + 1 : Nat) : Int)).flatten = rangeKs 0 ((n : Int) - 0).toNat ++ (List.replicate ((-(n : Int)) % ((k + 1 : Nat) : Int)).toNat [-1]).flatten
    ∧ ∀ r ∈ rows2 (n : Int) ((k + 1 : Nat) : Int), r.length = k + 1 := by
  have hl : (rangeKs 0 ((n : Int) - 0).toNat).length = n := by rw [rangeKs_length]; omega
  obtain ⟨z, hz⟩ : ∃ z, z = k + 1 := ⟨_, rfl⟩
  have z0 : 0 < z := by omega
  rw [← hz]
  unfold rows2
  generalize rangeKs 0 ((n : Int) - 0).toNat = ks at hl
  rw [hl]
  obtain ⟨j, hj⟩ : ∃ j, (((n : Int) + (z : Int) - 1) / (z : Int)).toNat = j := ⟨_, rfl⟩
  rw [hj]
  have e : (n : Int) + (z : Int) - 1 = ((n + z - 1 : Nat) : Int) := by omega
  rw [e, ← Int.natCast_ediv, Int.toNat_natCast] at hj
  have hd := Nat.div_add_mod (n + z - 1) z
  have hm := Nat.mod_lt (n + z - 1) z0
  rw [hj, Nat.mul_comm] at hd
  obtain ⟨r1, r2⟩ := rows2_law (ks := ks) (z := z) (k := j) (by omega) (by omega)
  refine ⟨?_, r2⟩
  rw [r1, flat_one, hl]
  congr 2
  have e2 : (-(n : Int)) = ((j * z - n : Nat) : Int) + (z : Int) * (-(j : Int)) := by
    rw [Int.mul_neg, Int.ofNat_sub (by omega), Int.natCast_mul, Int.mul_comm (z : Int)]
    omega
  rw [e2, Int.add_mul_emod_self_left, Int.emod_eq_of_lt (by omega) (by omega), Int.toNat_natCast]

end
section
theorem Rows.vals {nw : Led} : ∀ {ys : List Value} {rs : List (List Int)}, Rows nw ys rs → ∃ rv : List (List Value), ys.length = rv.length ∧
    (∀ (i : Nat) (r : List Value), rv[i]? = some r → ∃ (a : Addr) (c : Nat), ys[i]? = some (Value.ref a) ∧ (a, listOf r.toArray c) ∈ nw) ∧ IntsAre rv.flatten rs.flatten
  | [], [], _ => ⟨[], rfl, fun i r h => by simp at h, .nil⟩
  | y :: ys, r :: rs, ⟨⟨a, vs, n, e, m, i⟩, q⟩ => by
    obtain ⟨rv, h1, h2, h3⟩ := Rows.vals q
    refine ⟨vs :: rv, congrArg (· + 1) h1, fun k r hk => ?_, IntsAre.append i h3⟩
    cases k with
    | zero =>
      have hk' : vs = r := by simpa using hk
      subst hk'
      exact ⟨a, n, congrArg some e, m⟩
    | succ k => exact h2 k r (by simpa using hk)
  | [], _ :: _, x => x.elim
  | _ :: _, [], x => x.elim
section
variable {prog : Program} {w : World} {A : Around} {E : Value → Shared → Prop} {s : Shared} {h₀ : Heap} {L : Addr} {m : Str → Option Value} {env : Env}
/-- y = [b for a in z for b in a], z a list of lists of ints -/
theorem Assign_flatN {x1 x2 y z : Str} {pe p1 p2 p3 py pz : Pos} {scope : Scope} {pos spos : Pos} {Q : Flow → Shared → Prop} {ax : Addr} {vs : List Value} {rows : List (List Int)} {n : Nat} {news : Led}
    (F : Fr h₀ L s.heap m) (N : News h₀ L s.heap news) (hm : (ax, listOf vs.toArray n) ∈ news) (hR : Rows news vs rows) (hlen : rows.flatten.length ≤ 10000) (hLe : env.locals = L) (hz : m z = some (.ref ax))
    (hh : A.handled = none) (hk : env.scope.kind = .function) (hkz : env.kindOf z = some .local) (hdz : (z == ("__debug__" : Str)) = false)
    (hsw : swapsWith (.ListComp (.Name x2 pe) [⟨.Name x1 p1, .Name z pz, [], 0⟩, ⟨.Name x2 p2, .Name x1 p3, [], 0⟩] scope pos) (some (.Name y py)) spos.line env = pure true)
    (hclos : closureFor scope env = pure []) (hcell : ∀ z ∈ scope.names, z.2 ≠ .cell) (hkind : scope.kind = .function)
    (hnames : ∀ z ∈ scope.names, z.2 = .local → scope.names.lookup z.1 = some .local) (hx1 : scope.names.lookup x1 = some .local) (hx2 : scope.names.lookup x2 = some .local)
    (hy : env.kindOf y = some .local) (hp : (env.scope.kind == .class || (env.scope.kind == .module && env.locals != env.globals)) = false) (hd1 : (x1 == ("__debug__" : Str)) = false) (hd2 : (x2 == ("__debug__" : Str)) = false)
    (fin : ∀ D xs h' tk, IntsAre xs rows.flatten → Fr h₀ L h' (fun q => if q = y then some (.ref D) else m q) → News h₀ L h' ((D, LCg.lst xs) :: news) → Q .next { s with heap := h', toks := tk }) :
    wpAny (model prog w) A (exec (.Assign [.Name y py] (.ListComp (.Name x2 pe) [⟨.Name x1 p1, .Name z pz, [], 0⟩, ⟨.Name x2 p2, .Name x1 p3, [], 0⟩] scope pos) spos) env) Q E s := by
  subst hLe
  obtain ⟨rv, h1, h2, h3⟩ := hR.vals
  refine Assign_flat (h₀ := h₀) (m := m) rfl hsw hclos hcell hkind hnames hx1 hx2 hy hp hd1 hd2 (wpAny_Name (wpAny_loadName_local hk hkz F.ns hz ?_) hdz)
  refine ⟨ax, vs.toArray, n, news, rv, rfl, hh, F, N, hm, by rw [List.size_toArray, h1], fun i r hr => ?_, by rw [h3.length]; exact hlen, fun D h' tk F' N' => fin D _ h' tk h3 F' N'⟩
  obtain ⟨a, c, e1, e2⟩ := h2 i r hr
  exact ⟨a, c, by simpa using e1, e2⟩
theorem compLens {elt : PySem.Expr} {x : Str} {scope : Scope} {cl : List (Str × Addr)} {S : Led → Prop} {Fin : List Value → Led → Prop} {vs : List Value} {rows : List (List Int)} {base : Led} (hR : Rows base vs rows)
    (turn : ∀ a ws n r ys I oI C oC D m₂ h tk (E' : Value → Shared → Prop), (a, listOf (List.toArray ws) n) ∈ base → r ∈ rows → (List.toArray ws).size = List.length r → LCg.NsObj oC m₂ → m₂ x = some (.ref a) → Fr h₀ L h m → News h₀ L h ((I, oI) :: (C, oC) :: (D, LCg.lst ys) :: base) → LCg.Off3 I C D base → ((@Ne Nat I C) ∧ (@Ne Nat I D) ∧ (@Ne Nat C D)) →
      wpAny (model prog w) A (eval elt (compEnvC scope cl C env)) (LCg.CompEnd h₀ L m { s with heap := h, toks := tk } I oI C oC D (LCg.lst ys) S (EltI base (List.length r : Int))) E' { s with heap := h, toks := tk })
    (fin : ∀ ys, IntsAre ys (rows.map fun r => (r.length : Int)) → Fin ys base) : LCg.CompRest prog w A h₀ L m env elt x scope cl s S (fun i v => vs.toArray[i]? = some v) Fin vs.toArray.size 0 [] base := by
  have hl : vs.toArray.size = rows.length := by rw [List.size_toArray, hR.len]
  refine compRest_inv (n := rows.length) (fun i ys nw => nw = base ∧ IntsAre ys ((rows.take i).map fun r => (r.length : Int))) ?_ ?_ _ _ _ _ (by omega) ⟨rfl, by simpa using IntsAre.nil⟩
  · rintro i ys nw v I oI C oC D m₂ h tk E' hin ⟨rfl, hy⟩ hP ho hm F N off ne
    have hr : rows[i]? = some rows[i] := List.getElem?_eq_getElem hin
    obtain ⟨a, ws, c, e1, e2, e3⟩ := hR.get hr
    have hv : vs[i]? = some v := by simpa using hP
    rw [e1] at hv
    cases hv
    refine wpAny_mono (turn a ws c rows[i] ys I oI C oC D m₂ h tk E' e2 (List.getElem_mem hin) (by rw [List.size_toArray, e3.length]) ho hm F N off ne) (fun _ _ q => ?_) fun _ _ e => e
    obtain ⟨h', tk', news', e, F', N', off', hS, rfl, t', rfl⟩ := q
    refine ⟨h', tk', _, e, F', N', off', hS, rfl, ?_⟩
    rw [List.take_add_one, hr, List.map_append]
    exact ints_snoc hy
  · rintro ys nw ⟨rfl, hy⟩
    rw [List.take_length] at hy
    exact fin ys hy
end
theorem flat_rep (n : Nat) (z : Int) : (List.replicate n [z]).flatten = List.replicate n z := by
  induction n with
  | zero => rfl
  | succ n ih => rw [List.replicate_succ, List.flatten_cons, ih, List.replicate_succ]; rfl
theorem map_len {rows : List (List Int)} {z : Int} (h : ∀ r ∈ rows, ((List.length r : Nat) : Int) = z) : rows.map (fun r => ((List.length r : Nat) : Int)) = (List.replicate (rows.length : Int).toNat [z]).flatten := by
  rw [flat_rep, Int.toNat_natCast]
  exact List.eq_replicate_iff.mpr ⟨List.length_map _, fun b hb => by obtain ⟨r, hr, rfl⟩ := List.mem_map.mp hb; exact h r hr⟩
/-- what the groups are -/
theorem p2 {c z : Int} (h0 : 0 ≤ c) (h1 : c < 61) (z0 : 0 < z) (z1 : z ≤ 12) : (rows2 c z).flatten = rangeKs 0 (c - 0).toNat ++ (List.replicate ((-c) % z).toNat [-1]).flatten ∧ (rows2 c z).map (fun r => ((List.length r : Nat) : Int)) = (List.replicate (((rows2 c z).length : Nat) : Int).toNat [z]).flatten ∧
    (rows2 c z).flatten.length ≤ 100 ∧ (rows2 c z).length ≤ 100 ∧ ∀ r ∈ rows2 c z, r.length ≤ 100 := by
  obtain ⟨n, rfl⟩ := Int.eq_ofNat_of_zero_le h0
  obtain ⟨k, rfl⟩ : ∃ k : Nat, z = ((k + 1 : Nat) : Int) := ⟨(z - 1).toNat, by omega⟩
  have h := p2n n k
  have h3 : ∀ r ∈ rows2 (n : Int) ((k + 1 : Nat) : Int), ((List.length r : Nat) : Int) = ((k + 1 : Nat) : Int) := fun r hr => by
    rw [h.2 r hr]
  have hm := Int.emod_lt_of_pos (-(n : Int)) (show (0 : Int) < ((k + 1 : Nat) : Int) by omega)
  refine ⟨h.1, map_len h3, ?_, ?_, fun r hr => by have := h3 r hr; omega⟩
  · rw [show (rows2 (n : Int) ((k + 1 : Nat) : Int)).flatten = _ from h.1, List.length_append, rangeKs_length, flat_rep, List.length_replicate]
    (try dsimp only at *)
    omega
  · unfold rows2
    rw [List.length_map, List.length_range, rangeKs_length]
    have := Int.ediv_le_self (b := ((k + 1 : Nat) : Int)) (a := (((((n : Int) - 0).toNat : Nat) : Int) + ((k + 1 : Nat) : Int) - 1)) (by omega)
    omega

end
section
/-- the pen: so many draws are still allowed -/
structure PenB (i v : Int) (b : Nat) : Prop where
  i0 : 0 ≤ i
  i1 : i + b ≤ 1000
  v0 : 0 ≤ v
theorem PenB.mono {i v : Int} {b c : Nat} (h : PenB i v b) (hb : c ≤ b) : PenB i v c := ⟨h.i0, by have := h.i1; omega, h.v0⟩
theorem PenB.turn {i v j u : Int} {b : Nat} (h : PenB i v (b + 1)) (h0 : 0 ≤ j) (h1 : j ≤ i + 1) (h2 : 0 ≤ u) : PenB j u b := ⟨h0, by have := h.i1; omega, h2⟩
theorem PenB.le {i v : Int} {b : Nat} (h : PenB i v b) : i ≤ 1000 := by have := h.i1; omega
/-- a number of the law: at most two places, above nought and not too great -/
structure GoodX (n : Nat) (X : Int) : Prop where
  n2 : n ≤ 2
  x0 : 0 < X
  x1 : X < 9223372036854775808
section
variable {w : World} {hn : Option Value} {lp lc : Addr} {i v : Int} {ki kv : Tok} {np : Nat} {pre rest : Led} {many : Int} {km : Tok}
  {dp un : Nat} {gd : Option (List Code)} {cn : Str} {cs : Scope} {a : Addr} {ccd : Value} {cl : List (Str × Addr)} {outer : List Env} {A₀ : Around} {base h₀ : Heap} {L : Addr} {m : Str → Option Value}
    {mean : ExcName → Option Value} {mg mb : Str → Option Value} {s : Shared} {Q E : Value → Shared → Prop}
theorem perm_to {p q : Addr × Obj} {pre rest : Led} : p ∈ q :: (pre ++ rest) → p ∈ pre ++ q :: rest := fun h => by
  rcases List.mem_cons.mp h with rfl | h
  · exact List.mem_append_right _ List.mem_cons_self
  · exact (List.mem_append.mp h).elim (fun h => List.mem_append_left _ h) (fun h => List.mem_append_right _ (List.mem_cons_of_mem _ h))
theorem perm_of {p q : Addr × Obj} {pre rest : Led} : p ∈ pre ++ q :: rest → p ∈ q :: (pre ++ rest) := fun h =>
  (List.mem_append.mp h).elim (fun h => List.mem_cons_of_mem _ (List.mem_append_left _ h)) (fun h => (List.mem_cons.mp h).elim (fun e => e ▸ List.mem_cons_self) (fun h => List.mem_cons_of_mem _ (List.mem_append_right _ h)))
theorem drawPre (B : Below A₀ base outer h₀) (F : Fr h₀ L s.heap m) (X : (Mine.hd0.heap_1_1 w.params).In h₀) (N : News h₀ L s.heap (pre ++ (lp, penO lc i v ki kv np) :: rest)) (T : Top Mine.hd0.view_1_2 (looseW Mine.hd0.view_1_2 [Str.ofString "PaperError"]) mean mg mb h₀) (hk : cs.kind = .function)
    {vs : List Value} {ns : List Int} {nc b : Nat} (mc : (lc, listOf vs.toArray nc) ∈ rest) (hi : IntsAre vs ns) (hne : 0 < ns.length) (hl : ns.length ≤ 100) (pb : PenB i v (b + 1)) (h4 : 0 < many) (h5 : many < 1000000) (off : ∀ p ∈ pre ++ rest, p.1 ≠ lp) (hd : dp + 3 < recursionLimit) (hu : un + 8 * 3 < cLine)
    (ret : ∀ d i' v' t ki' kv' np' h' tk', Fr h₀ L h' m → News h₀ L h' (pre ++ (lp, penO lc i' v' ki' kv' np') :: rest) → 0 ≤ d → d < many → PenB i' v' b → Q (.int d t) { s with heap := h', toks := tk' }) :
    wpAny (model PySem.Challenge.rw_pb0475_01.row.prog w) (ArH hn dp un gd cn cs L a ccd cl outer) (call (.ref 316) [.ref lp, .int many km]) Q E s :=
  law_draw (List.mem_append_right pre mc) hi hne hl pb.i0 pb.le pb.v0 h4 h5 off _ _ _ _ _ _ _ _ _ _ _ _ _ _ _ _ _ _ _ _ B F X (newsDrop N fun p hp => perm_to hp) T hk hd hu fun d i' v' t ki' kv' np' h' tk' F' N' g1 g2 g3 g4 g5 => ret d i' v' t ki' kv' np' h' tk' F' (newsDrop N' fun p hp => perm_of hp) g1 g2 (pb.turn g3 g4 g5)
theorem drB0 (B : Below A₀ base outer h₀) (F : Fr h₀ L s.heap m) (X : (Mine.hd0.heap_1_1 w.params).In h₀) (N : News h₀ L s.heap ((lp, penO lc i v ki kv np) :: rest)) (T : Top Mine.hd0.view_1_2 (looseW Mine.hd0.view_1_2 [Str.ofString "PaperError"]) mean mg mb h₀) (hk : cs.kind = .function)
    {vs : List Value} {ns : List Int} {nc b : Nat} (mc : (lc, listOf vs.toArray nc) ∈ rest) (hi : IntsAre vs ns) (hne : 0 < ns.length) (hl : ns.length ≤ 100) (pb : PenB i v (b + 1)) (h4 : 0 < many) (h5 : many < 1000000) (off : ∀ p ∈ rest, p.1 ≠ lp) (hd : dp + 3 < recursionLimit) (hu : un + 8 * 3 < cLine)
    (ret : ∀ d i' v' t ki' kv' np' h' tk', Fr h₀ L h' m → News h₀ L h' ((lp, penO lc i' v' ki' kv' np') :: rest) → 0 ≤ d → d < many → PenB i' v' b → Q (.int d t) { s with heap := h', toks := tk' }) :
    wpAny (model PySem.Challenge.rw_pb0475_01.row.prog w) (ArH hn dp un gd cn cs L a ccd cl outer) (call (.ref 316) [.ref lp, .int many km]) Q E s :=
  drawPre (pre := []) B F X N T hk mc hi hne hl pb h4 h5 off hd hu ret
theorem drB3 {a1 a2 a3 : Addr × Obj} (B : Below A₀ base outer h₀) (F : Fr h₀ L s.heap m) (X : (Mine.hd0.heap_1_1 w.params).In h₀) (N : News h₀ L s.heap (a1 :: a2 :: a3 :: (lp, penO lc i v ki kv np) :: rest)) (T : Top Mine.hd0.view_1_2 (looseW Mine.hd0.view_1_2 [Str.ofString "PaperError"]) mean mg mb h₀) (hk : cs.kind = .function)
    {vs : List Value} {ns : List Int} {nc b : Nat} (mc : (lc, listOf vs.toArray nc) ∈ rest) (hi : IntsAre vs ns) (hne : 0 < ns.length) (hl : ns.length ≤ 100) (pb : PenB i v (b + 1)) (h4 : 0 < many) (h5 : many < 1000000) (off : ∀ p ∈ a1 :: a2 :: a3 :: rest, p.1 ≠ lp) (hd : dp + 3 < recursionLimit) (hu : un + 8 * 3 < cLine)
    (ret : ∀ d i' v' t ki' kv' np' h' tk', Fr h₀ L h' m → News h₀ L h' (a1 :: a2 :: a3 :: (lp, penO lc i' v' ki' kv' np') :: rest) → 0 ≤ d → d < many → PenB i' v' b → Q (.int d t) { s with heap := h', toks := tk' }) :
    wpAny (model PySem.Challenge.rw_pb0475_01.row.prog w) (ArH hn dp un gd cn cs L a ccd cl outer) (call (.ref 316) [.ref lp, .int many km]) Q E s :=
  drawPre (pre := [a1, a2, a3]) B F X N T hk mc hi hne hl pb h4 h5 off hd hu ret
theorem drD {S : Led} (B : Below A₀ base outer h₀) (F : Fr h₀ L s.heap m) (X : (Mine.hd0.heap_1_1 w.params).In h₀) (N : News h₀ L s.heap S) (sub : ∀ p ∈ (lp, penO lc i v ki kv np) :: rest, p ∈ S) (T : Top Mine.hd0.view_1_2 (looseW Mine.hd0.view_1_2 [Str.ofString "PaperError"]) mean mg mb h₀) (hk : cs.kind = .function)
    {vs : List Value} {ns : List Int} {nc b : Nat} (mc : (lc, listOf vs.toArray nc) ∈ rest) (hi : IntsAre vs ns) (hne : 0 < ns.length) (hl : ns.length ≤ 100) (pb : PenB i v (b + 1)) (h4 : 0 < many) (h5 : many < 1000000) (off : ∀ p ∈ rest, p.1 ≠ lp) (hd : dp + 3 < recursionLimit) (hu : un + 8 * 3 < cLine)
    (ret : ∀ d i' v' t ki' kv' np' h' tk', Fr h₀ L h' m → News h₀ L h' ((lp, penO lc i' v' ki' kv' np') :: rest) → 0 ≤ d → d < many → PenB i' v' b → Q (.int d t) { s with heap := h', toks := tk' }) :
    wpAny (model PySem.Challenge.rw_pb0475_01.row.prog w) (ArH hn dp un gd cn cs L a ccd cl outer) (call (.ref 316) [.ref lp, .int many km]) Q E s :=
  drB0 B F X (newsDrop N sub) T hk mc hi hne hl pb h4 h5 off hd hu ret
theorem spx_use {D : Nat} {f : Value} {vs : List Value} {news : Led} {C : Addr} (B : Below A₀ base outer h₀) (F : Fr h₀ L s.heap m) (X : (Mine.hd0.heap_1_1 w.params).In h₀) (N : News h₀ L s.heap news) (T : Top Mine.hd0.view_1_2 (looseW Mine.hd0.view_1_2 [Str.ofString "PaperError"]) mean mg mb h₀) (hk : cs.kind = .function)
    (S : SpX w D f vs news C) (hd : dp + D < recursionLimit) (hu : un + 8 * D < cLine)
    (ret : ∀ e g h' tk', Fr h₀ L g m → RaisedX base (envX cn cs L a ccd cl :: outer) e (.ref C) news h' → g.UpToSlots h' → E (.ref e) { s with heap := h', toks := tk' }) :
    wpAny (model PySem.Challenge.rw_pb0475_01.row.prog w) (ArH none dp un gd cn cs L a ccd cl outer) (call f vs) Q E s := S _ _ _ _ _ _ _ _ _ _ _ _ _ _ _ _ _ _ _ _ B F X N T hk hd hu ret
theorem dv_np {t p X : Int} {n : Nat} (v : DV t p n X) (h : X ≤ 0) : t ≤ 0 := by
  obtain ⟨a1, a2, a3, a4⟩ := v
  rcases Int.lt_or_le 0 t with h0 | h0
  · have := Int.mul_pos h0 (p10_pos (12 - p.toNat))
    omega
  · exact h0
theorem spw_use {D : Nat} {f : Value} {vs : List Value} {news : Led} {Post : Value → Led → Prop} (B : Below A₀ base outer h₀) (F : Fr h₀ L s.heap m) (X : (Mine.hd0.heap_1_1 w.params).In h₀) (N : News h₀ L s.heap news) (T : Top Mine.hd0.view_1_2 (looseW Mine.hd0.view_1_2 [Str.ofString "PaperError"]) mean mg mb h₀) (hk : cs.kind = .function)
    (S : SpW w D f vs news Post) (hd : dp + D < recursionLimit) (hu : un + 8 * D < cLine)
    (ret : ∀ r nw h' tk', Fr h₀ L h' m → News h₀ L h' nw → (∀ p ∈ news, p ∈ nw) → Post r nw → Q r { s with heap := h', toks := tk' }) :
    wpAny (model PySem.Challenge.rw_pb0475_01.row.prog w) (ArH none dp un gd cn cs L a ccd cl outer) (call f vs) Q E s := S _ _ _ _ _ _ _ _ _ _ _ _ _ _ _ _ _ _ _ _ B F X N T hk hd hu ret
end
/-- an address below another: kept from omega's sight -/
structure LtA (a b : Addr) : Prop where
  lt : @LT.lt Nat _ a b
theorem LtA_iff {a b : Addr} : LtA a b ↔ @LT.lt Nat _ a b := ⟨fun h => h.lt, fun h => ⟨h⟩⟩
theorem lt_upA {l : Led} {x d y : Addr} {o : Obj} (h2 : LtA d y) (h : AllLt d l) (hm : (x, o) ∈ l) : @LT.lt Nat _ x y := Nat.lt_trans (ktn_ltOf h _ hm) h2.lt
theorem dec_abs {d p t q : Int} (h1 : 0 ≤ d) (h2 : d < 6000) (h3 : 0 ≤ p) (h4 : p < 3) (v : DV t q p.toNat ((1 + d) * 10 ^ (12 - p.toNat))) : ∃ n X, DV t q n X ∧ GoodX n X := by
  refine ⟨_, _, v, ⟨by omega, Int.mul_pos (by omega) (p10_pos _), ?_⟩⟩
  have a1 := p10_le (show 12 - p.toNat ≤ 12 by omega)
  have a2 := Int.mul_le_mul_of_nonneg_left a1 (show 0 ≤ 1 + d by omega)
  have a3 : (10 : Int) ^ 12 = 1000000000000 := rfl
  rw [a3] at a2
  omega
section
variable {w : World} {hn : Option Value} {D : Nat} {f : Value} {vs : List Value} {news : Led}
  {dp un : Nat} {gd : Option (List Code)} {cn : Str} {cs : Scope} {a : Addr} {ccd : Value} {cl : List (Str × Addr)} {outer : List Env} {A₀ : Around} {base h₀ : Heap} {L : Addr} {m : Str → Option Value}
    {mean : ExcName → Option Value} {mg mb : Str → Option Value} {s : Shared} {Q E : Value → Shared → Prop} {x q : Int}
/-- a decimal of which only its size is kept -/
theorem use_decA (N : News h₀ L s.heap news) (C : Sp w hn D f vs news (PDec w q.toNat ((1 + x) * 10 ^ (12 - q.toNat)))) (e0 : 0 ≤ x) (e1 : x < 6000) (q0 : 0 ≤ q) (q1 : q < 3)
    (B : Below A₀ base outer h₀) (F : Fr h₀ L s.heap m) (X : (Mine.hd0.heap_1_1 w.params).In h₀) (T : Top Mine.hd0.view_1_2 (looseW Mine.hd0.view_1_2 [Str.ofString "PaperError"]) mean mg mb h₀) (hk : cs.kind = .function) (hd : dp + D < recursionLimit) (hu : un + 8 * D < cLine)
    (ret : ∀ b d i1 i2 i3 i4 t p n X h' tk', Fr h₀ L h' m → News h₀ L h' ((b, instObj 155 d) :: (d, decD w t p i1 i2 i3 i4) :: news) → LtA d b → AllLt d news → DV t p n X → GoodX n X → Q (.ref b) { s with heap := h', toks := tk' }) :
    wpAny (model PySem.Challenge.rw_pb0475_01.row.prog w) (ArH hn dp un gd cn cs L a ccd cl outer) (call f vs) Q E s :=
  use_dec N C B F X T hk hd hu fun b d i1 i2 i3 i4 t p h' tk' F' N' h1 h2 h3 _ _ _ => by
    obtain ⟨n, Y, v, y1⟩ := dec_abs e0 e1 q0 q1 h3
    exact ret b d i1 i2 i3 i4 t p n Y h' tk' F' N' ⟨h1⟩ h2 v y1
end
/-- what a turn of a comprehension that draws gives: a decimal, and the pen turned on -/
def PenY (w : World) (lp lc : Addr) (b : Nat) (R : Led) (y : Value) (nw : Led) : Prop :=
  ∃ a n X i v ki kv np R', y = .ref a ∧ nw = (lp, penO lc i v ki kv np) :: R' ∧ Sub R R' ∧ (∀ p ∈ R', p.1 ≠ lp) ∧ PenB i v b ∧ DecAt w R' a n X ∧ GoodX n X
theorem off3_of {I C D : Addr} {l : Led} (h : ∀ p ∈ l, p.1 ≠ I ∧ p.1 ≠ C ∧ p.1 ≠ D) : LCg.Off3 I C D l := LCg.Off3.of h
section
variable {prog : Program} {w : World} {A : Around} {E : Value → Shared → Prop} {s : Shared} {h₀ : Heap} {L : Addr} {m : Str → Option Value} {env : Env}
theorem compEndPen {T I C D lp lc b d : Addr} {oT oI oC oD : Obj} {s₁ : Shared} {h' : Heap} {tk n i1 i2 i3 i4 np b0 : Nat} {t p X i v : Int} {ki kv : Tok} {R : Led}
    (F : Fr h₀ L h' m) (N : News h₀ L h' ((b, instObj 155 d) :: (d, decD w t p i1 i2 i3 i4) :: (I, oI) :: (C, oC) :: (D, oD) :: (lp, penO lc i v ki kv np) :: R)) (l1 : LtA d b) (l2 : AllLt d ((I, oI) :: (C, oC) :: (D, oD) :: (lp, penO lc i v ki kv np) :: R))
    (off : ∀ p ∈ (I, oI) :: (C, oC) :: (D, oD) :: R, p.1 ≠ lp) (o3 : LCg.Off3 I C D R) (hT : (T, oT) ∈ R) (pb : PenB i v b0) (dv : DV t p n X) (gx : GoodX n X) :
    LCg.CompEnd h₀ L m s₁ I oI C oC D oD (fun nw => (T, oT) ∈ nw) (PenY w lp lc b0 R) (.ref b) { s₁ with heap := h', toks := tk } := by
  have hI : @LT.lt Nat _ I d := ktn_ltOf l2 _ List.mem_cons_self
  have hC : @LT.lt Nat _ C d := ktn_ltOf l2 _ (List.mem_cons_of_mem _ List.mem_cons_self)
  have hD : @LT.lt Nat _ D d := ktn_ltOf l2 _ (List.mem_cons_of_mem _ (List.mem_cons_of_mem _ List.mem_cons_self))
  have hl : @LT.lt Nat _ lp d := ktn_ltOf l2 _ (List.mem_cons_of_mem _ (List.mem_cons_of_mem _ (List.mem_cons_of_mem _ List.mem_cons_self)))
  have hR : ∀ q ∈ R, q ∈ (lp, penO lc i v ki kv np) :: (b, instObj 155 d) :: (d, decD w t p i1 i2 i3 i4) :: R := fun q hq => List.mem_cons_of_mem _ (List.mem_cons_of_mem _ (List.mem_cons_of_mem _ hq))
  have oI' := off _ List.mem_cons_self
  have oC' := off _ (List.mem_cons_of_mem _ List.mem_cons_self)
  have oD' := off _ (List.mem_cons_of_mem _ (List.mem_cons_of_mem _ List.mem_cons_self))
  refine LCg.CompEnd.intro F N ((lp, penO lc i v ki kv np) :: (b, instObj 155 d) :: (d, decD w t p i1 i2 i3 i4) :: R) ?_ ?_ (hR _ hT) ⟨b, n, X, i, v, ki, kv, np, _, rfl, rfl, ⟨fun q hq => List.mem_cons_of_mem _ (List.mem_cons_of_mem _ hq)⟩, ?_, pb, .mk' List.mem_cons_self (List.mem_cons_of_mem _ List.mem_cons_self) dv, gx⟩
  · intro q hq
    rcases List.mem_cons.mp hq with rfl | hq
    · exact List.mem_cons_of_mem _ (List.mem_cons_of_mem _ List.mem_cons_self)
    rcases List.mem_cons.mp hq with rfl | hq
    · exact List.mem_cons_of_mem _ (List.mem_cons_of_mem _ (List.mem_cons_of_mem _ List.mem_cons_self))
    rcases List.mem_cons.mp hq with rfl | hq
    · exact List.mem_cons_of_mem _ (List.mem_cons_of_mem _ (List.mem_cons_of_mem _ (List.mem_cons_of_mem _ List.mem_cons_self)))
    rcases List.mem_cons.mp hq with rfl | hq
    · exact List.mem_cons_of_mem _ (List.mem_cons_of_mem _ (List.mem_cons_of_mem _ (List.mem_cons_of_mem _ (List.mem_cons_of_mem _ List.mem_cons_self))))
    rcases List.mem_cons.mp hq with rfl | hq
    · exact List.mem_cons_self
    rcases List.mem_cons.mp hq with rfl | hq
    · exact List.mem_cons_of_mem _ List.mem_cons_self
    · exact List.mem_cons_of_mem _ (List.mem_cons_of_mem _ (List.mem_cons_of_mem _ (List.mem_cons_of_mem _ (List.mem_cons_of_mem _ (List.mem_cons_of_mem _ hq)))))
  · exact ⟨⟨fun e => oI' e.symm, fun e => oC' e.symm, fun e => oD' e.symm⟩, ⟨Nat.ne_of_gt (Nat.lt_trans hI l1.lt), Nat.ne_of_gt (Nat.lt_trans hC l1.lt), Nat.ne_of_gt (Nat.lt_trans hD l1.lt)⟩, ⟨Nat.ne_of_gt hI, Nat.ne_of_gt hC, Nat.ne_of_gt hD⟩, o3⟩
  · intro q hq
    rcases List.mem_cons.mp hq with rfl | hq
    · exact Nat.ne_of_gt (Nat.lt_trans hl l1.lt)
    rcases List.mem_cons.mp hq with rfl | hq
    · exact Nat.ne_of_gt hl
    · exact off q (List.mem_cons_of_mem _ (List.mem_cons_of_mem _ (List.mem_cons_of_mem _ hq)))
/-- the comprehension's two turns, each told once -/
theorem srcPen {elt : PySem.Expr} {x : Str} {scope : Scope} {cl : List (Str × Addr)} {Fin : Shared → List Value → Led → Prop} {T lp lc nT np : Nat} {v0 v1 : Value} {i v : Int} {ki kv : Tok} {R : Led} {b : Nat} {s₁ : Shared}
    (hh : A.handled = none) (F : Fr h₀ L s₁.heap m) (N : News h₀ L s₁.heap ((T, tupO #[v0, v1] nT) :: (lp, penO lc i v ki kv np) :: R)) (hT : @Ne Nat T lp) (off : ∀ p ∈ R, p.1 ≠ lp) (pb : PenB i v (b + 4))
    (turn : ∀ (g : Heap) b' ys i v ki kv np R' u I oI C oC D m₂ h tk (E' : Value → Shared → Prop), PenB i v (b' + 2) → Sub R R' → (∀ p ∈ (I, oI) :: (C, oC) :: (D, LCg.lst ys) :: R', p.1 ≠ lp) → (T, tupO #[v0, v1] nT) ∈ R' → LCg.NsObj oC m₂ → m₂ x = some u → Fr h₀ L h m →
      News h₀ L h ((I, oI) :: (C, oC) :: (D, LCg.lst ys) :: (lp, penO lc i v ki kv np) :: R') → LCg.Off3 I C D R' → ((@Ne Nat I C) ∧ (@Ne Nat I D) ∧ (@Ne Nat C D)) →
      wpAny (model prog w) A (eval elt (compEnvC scope cl C env)) (LCg.CompEnd h₀ L m { s₁ with heap := h, toks := tk } I oI C oC D (LCg.lst ys) (fun nw => (T, tupO #[v0, v1] nT) ∈ nw) (PenY w lp lc b' R')) E' { s₁ with heap := h, toks := tk })
    (fin : ∀ g a1 n1 X1 a2 n2 X2 i v ki kv np R', PenB i v b → Sub R R' → (∀ p ∈ R', p.1 ≠ lp) → DecAt w R' a1 n1 X1 → GoodX n1 X1 → DecAt w R' a2 n2 X2 → GoodX n2 X2 → Fin { s₁ with heap := g } [.ref a1, .ref a2] ((lp, penO lc i v ki kv np) :: R')) :
    SrcX prog w A h₀ L m env elt x scope cl Fin (.ref T) s₁ := by
  have N2 : News h₀ L s₁.heap ((lp, penO lc i v ki kv np) :: (T, tupO #[v0, v1] nT) :: R) := newsDrop N fun q hq => by
    rcases List.mem_cons.mp hq with rfl | hq
    · exact List.mem_cons_of_mem _ List.mem_cons_self
    rcases List.mem_cons.mp hq with rfl | hq
    · exact List.mem_cons_self
    · exact List.mem_cons_of_mem _ (List.mem_cons_of_mem _ hq)
  have off2 : ∀ p ∈ (T, tupO #[v0, v1] nT) :: R, p.1 ≠ lp := fun q hq => by
    rcases List.mem_cons.mp hq with rfl | hq
    · exact hT
    · exact off q hq
  refine SrcX.tup hh F N2 (List.mem_cons_of_mem _ List.mem_cons_self) (Nat.le_of_ble_eq_true rfl) (fun g => compRest_inv (n := 2) (fun k ys nw => ∃ i v ki kv np R', nw = (lp, penO lc i v ki kv np) :: R' ∧ PenB i v (b + (4 - 2 * k)) ∧ Sub ((T, tupO #[v0, v1] nT) :: R) R' ∧ (∀ p ∈ R', p.1 ≠ lp) ∧ ys.length = k ∧ ∀ y ∈ ys, ∃ a n X, y = .ref a ∧ DecAt w R' a n X ∧ GoodX n X) ?_ ?_ 2 0 [] _ rfl ⟨i, v, ki, kv, np, _, rfl, pb, .refl, off2, rfl, List.forall_mem_nil _⟩)
  · rintro k ys nw u I oI C oC D m₂ h tk E' hk ⟨i, v, ki, kv, np, R', rfl, pb', sb, off', hy, good⟩ hP ho hm F' N' o3 ne
    have eb : b + (4 - 2 * k) = (b + (4 - 2 * (k + 1))) + 2 := by omega
    rw [eb] at pb'
    have o1 := o3.1
    refine wpAny_mono (turn g _ ys i v ki kv np R' u I oI C oC D m₂ h tk E' pb' sb.tl (fun q hq => ?_) sb.hd ho hm F' N' o3.2 ne) (fun _ _ q => ?_) fun _ _ e => e
    · rcases List.mem_cons.mp hq with rfl | hq
      · exact fun e => o1.1 e.symm
      rcases List.mem_cons.mp hq with rfl | hq
      · exact fun e => o1.2.1 e.symm
      rcases List.mem_cons.mp hq with rfl | hq
      · exact fun e => o1.2.2 e.symm
      · exact off' q hq
    · obtain ⟨h2, tk2, nw2, e, F2, N2, o2, hS, a, n, X, i2, v2, ki2, kv2, np2, R2, rfl, rfl, sb2, off2, pb2, dc, gx⟩ := q
      refine ⟨h2, tk2, _, e, F2, N2, o2, hS, i2, v2, ki2, kv2, np2, R2, rfl, pb2, ⟨fun p hp => sb2.up p (sb.up p hp)⟩, off2, by rw [List.length_append, hy]; rfl, fun y hy2 => ?_⟩
      rcases List.mem_append.mp hy2 with hy2 | hy2
      · obtain ⟨a', n', X', e', d', g'⟩ := good y hy2
        exact ⟨a', n', X', e', d'.up sb2, g'⟩
      · exact ⟨a, n, X, List.mem_singleton.mp hy2, dc, gx⟩
  · rintro ys nw ⟨i, v, ki, kv, np, R', rfl, pb', sb, off', hy, good⟩
    match ys, hy with
    | [y1, y2], _ =>
      obtain ⟨a1, n1, X1, rfl, d1, g1⟩ := good y1 List.mem_cons_self
      obtain ⟨a2, n2, X2, rfl, d2, g2⟩ := good y2 (List.mem_cons_of_mem _ List.mem_cons_self)
      exact fin g a1 n1 X1 a2 n2 X2 i v ki kv np R' pb' sb.tl off' d1 g1 d2 g2
theorem finPen {y : Str} {Q : Flow → Shared → Prop} {a1 a2 lp : Addr} {pen : Obj} {R : Led} {s₁ : Shared} (off : ∀ p ∈ R, p.1 ≠ lp)
    (k : ∀ D h tk S, Fr h₀ L h (fun z => if z = y then some (.ref D) else m z) → News h₀ L h ((lp, pen) :: S) → (∀ p ∈ S, p.1 ≠ lp) → Sub R S → (D, listOf [Value.ref a1, .ref a2].toArray 2) ∈ S → Q .next { s₁ with heap := h, toks := tk }) :
    LCg.FinA h₀ L m s₁ y Q [.ref a1, .ref a2] ((lp, pen) :: R) := by
  intro D h tk F N o
  refine k D h tk ((D, listOf [Value.ref a1, .ref a2].toArray 2) :: R) F (newsDrop N fun q hq => ?_) (fun q hq => ?_) ⟨fun q hq => List.mem_cons_of_mem _ hq⟩ List.mem_cons_self
  · rcases List.mem_cons.mp hq with rfl | hq
    · exact List.mem_cons_of_mem _ List.mem_cons_self
    rcases List.mem_cons.mp hq with rfl | hq
    · exact List.mem_cons_self
    · exact List.mem_cons_of_mem _ (List.mem_cons_of_mem _ hq)
  · rcases List.mem_cons.mp hq with rfl | hq
    · exact fun e => o.1 e.symm
    · exact off q hq
end
theorem law_cells_rightG {w : World} {news : Led} {s1 : Nat} {W : Int} {n1 : Nat} {s2 : Nat} {H : Int} {n2 : Nat} {ls n : Nat} {s3 : Nat} {S1 : Int} {n3 : Nat} {s4 : Nat} {S2 : Int} {n4 : Nat} {lz nz : Nat} {c r pl : Int} {k1 k2 k3 : Tok}
    (ml : (ls, listOf [Value.ref s1, Value.ref s2].toArray n) ∈ news) (d1 : DecAt w news s1 n1 W) (d2 : DecAt w news s2 n2 H) (mz : (lz, listOf [Value.ref s3, Value.ref s4].toArray nz) ∈ news) (d3 : DecAt w news s3 n3 S1) (d4 : DecAt w news s4 n4 S2)
    (g1 : GoodX n1 W) (g2 : GoodX n2 H) (g3 : GoodX n3 S1) (g4 : GoodX n4 S2) (c1 : 0 < c) (c2 : c ≤ 4) (r1 : 0 < r) (r2 : r ≤ 3) (p1 : 0 ≤ pl) (p2 : pl ≤ 4) :
    Sp w none 40 (.ref 340) [.ref ls, .int c k1, .int r k2, .ref lz, .int pl k3] news (PBool true) :=
  law_cells_right ml d1 d2 mz d3 d4 g3.n2 g4.n2 (Int.le_of_lt g1.x0) (Int.le_of_lt g2.x0) g3.x0 g3.x1 g4.x0 g4.x1 c1 c2 r1 r2 p1 p2
theorem fit_lG {w : World} {news : Led} {s1 s2 s3 s4 : Nat} {S1 S2 R1 R2 : Int} {n1 n2 n3 n4 ls n lr n' : Nat} {pl : Int} {k2 : Tok}
    (ml : (ls, listOf [Value.ref s1, Value.ref s2].toArray n) ∈ news) (d1 : DecAt w news s1 n1 S1) (d2 : DecAt w news s2 n2 S2) (mr : (lr, listOf [Value.ref s3, Value.ref s4].toArray n') ∈ news) (d3 : DecAt w news s3 n3 R1) (d4 : DecAt w news s4 n4 R2)
    (g1 : GoodX n1 S1) (g2 : GoodX n2 S2) (p1 : 0 ≤ pl) (p2 : pl ≤ 4) :
    Sp w none 20 (.ref 278) [.ref ls, .ref lr, .int pl k2] news (PDec w pl.toNat (min (R1 * 10 ^ pl.toNat / S1) (R2 * 10 ^ pl.toNat / S2) * 10 ^ (12 - pl.toNat))) := by
  obtain ⟨_, _, _, _, _, _, _, a1, a2, a3⟩ := d1.ex
  obtain ⟨_, _, _, _, _, _, _, b1, b2, b3⟩ := d2.ex
  obtain ⟨_, _, _, _, _, _, _, c1, c2, c3⟩ := d3.ex
  obtain ⟨_, _, _, _, _, _, _, e1, e2, e3⟩ := d4.ex
  exact fit_l ml a1 a2 a3 b1 b2 b3 mr c1 c2 c3 e1 e2 e3 g1.x0 g1.x1 g2.x0 g2.x1 p1 (Int.le_trans p2 (by decide))
theorem law_scale_lG {w : World} {news : Led} {ls lr n n1 n2 : Nat} {S1 S2 R1 R2 pl : Int} {k1 k2 k3 k4 k5 : Tok} (m1 : (ls, tup2 (.int S1 k1) (.int S2 k2)) ∈ news) (m2 : (lr, listOf [Value.int R1 k3, .int R2 k4].toArray n) ∈ news) (g1 : GoodX n1 S1) (g2 : GoodX n2 S2) (p1 : 0 ≤ pl) (p2 : pl ≤ 4) :
    Sp w none 3 (.ref 335) [.ref ls, .ref lr, .int pl k5] news (PInt (min (R1 * 10 ^ pl.toNat / S1) (R2 * 10 ^ pl.toNat / S2))) :=
  law_scale_l m1 m2 g1.x0 g1.x1 g2.x0 g2.x1 p1 (Int.le_trans p2 (by decide))
section
variable {w : World} {hn : Option Value} {D : Nat} {f : Value} {vs : List Value} {news : Led}
  {dp un : Nat} {gd : Option (List Code)} {cn : Str} {cs : Scope} {a : Addr} {ccd : Value} {cl : List (Str × Addr)} {outer : List Env} {A₀ : Around} {base h₀ : Heap} {L : Addr} {m : Str → Option Value}
    {mean : ExcName → Option Value} {mg mb : Str → Option Value} {s : Shared} {Q E : Value → Shared → Prop} {n : Nat} {x : Int}
/-- a decimal of which no field is told -/
theorem use_decO (N : News h₀ L s.heap news) (C : Sp w hn D f vs news (PDec w n x))
    (B : Below A₀ base outer h₀) (F : Fr h₀ L s.heap m) (X : (Mine.hd0.heap_1_1 w.params).In h₀) (T : Top Mine.hd0.view_1_2 (looseW Mine.hd0.view_1_2 [Str.ofString "PaperError"]) mean mg mb h₀) (hk : cs.kind = .function) (hd : dp + D < recursionLimit) (hu : un + 8 * D < cLine)
    (ret : ∀ b S h' tk', Fr h₀ L h' m → News h₀ L h' S → Sub news S → DecAt w S b n x → Q (.ref b) { s with heap := h', toks := tk' }) :
    wpAny (model PySem.Challenge.rw_pb0475_01.row.prog w) (ArH hn dp un gd cn cs L a ccd cl outer) (call f vs) Q E s :=
  use_dec N C B F X T hk hd hu fun b d i1 i2 i3 i4 t p h' tk' F' N' _ _ h3 _ _ _ =>
    ret b _ h' tk' F' N' ⟨fun _ hp => List.mem_cons_of_mem _ (List.mem_cons_of_mem _ hp)⟩ (.mk' List.mem_cons_self (List.mem_cons_of_mem _ List.mem_cons_self) h3)
end
/-- a size that fit refuses -/
structure BadAt (w : World) (R : Led) (l : Addr) : Prop where
  ex : ∃ a1 a2 n n1 n2 X1 X2, (l, listOf [Value.ref a1, Value.ref a2].toArray n) ∈ R ∧ DecAt w R a1 n1 X1 ∧ DecAt w R a2 n2 X2 ∧ (X1 ≤ 0 ∨ X2 ≤ 0)
theorem BadAt.mono {w : World} {R S : Led} {l : Addr} (h : BadAt w R l) (k : ∀ p ∈ R, p ∈ S) : BadAt w S l := by
  obtain ⟨a1, a2, n, n1, n2, X1, X2, e, d1, d2, hx⟩ := h.ex
  exact ⟨a1, a2, n, n1, n2, X1, X2, k _ e, d1.mono k, d2.mono k, hx⟩
theorem fit_badO {w : World} {news : Led} {l lr : Addr} {k3 : Tok} {pl : Int} (h : BadAt w news l) : SpX w 10 (.ref 278) [.ref l, .ref lr, .int pl k3] news 59 := by
  obtain ⟨a1, a2, n, n1, n2, X1, X2, e, d1, d2, hx⟩ := h.ex
  obtain ⟨_, _, _, _, _, _, _, b1, b2, b3⟩ := d1.ex
  obtain ⟨_, _, _, _, _, _, _, c1, c2, c3⟩ := d2.ex
  exact fit_bad1 e b1 b2 c1 c2 (hx.elim (fun h => .inl (dv_np b3 h)) fun h => .inr (dv_np c3 h))
def LawE (h₀ : Heap) (L lp lc : Addr) (R' : Led) (b : Nat) (s₁ s₂ : Shared) : Prop :=
  ∃ h' tk m' i v ki kv np, s₂ = { s₁ with heap := h', toks := tk } ∧ Fr h₀ L h' m' ∧ News h₀ L h' ((lp, penO lc i v ki kv np) :: R') ∧ PenB i v b ∧
    ∃ c r kc kr, m' (Str.ofString "columns") = some (.int c kc) ∧ m' (Str.ofString "rows") = some (.int r kr) ∧ 0 < c ∧ c ≤ 4 ∧ 0 < r ∧ r ≤ 3
def LawP (h₀ : Heap) (L lp lc : Addr) (R' : Led) (b : Nat) (s₁ : Shared) (Q : Flow → Shared → Prop) (f : Flow) (s₂ : Shared) : Prop :=
  match f with
  | .ret v => Q (.ret v) s₂
  | .brk => Q .next s₂
  | _ => LawE h₀ L lp lc R' b s₁ s₂
def LawJ (lp lc pc : Addr) (ws : List Value) (oc : Obj) (k : Nat) (m : Str → Option Value) (nx : Led) : Prop :=
  ∃ i v ki kv np, nx = [(lp, penO lc i v ki kv np), (lc, listOf ws.toArray 0), (pc, oc)] ∧ PenB i v (300 - 100 * k) ∧
    (1 ≤ k → ∃ c r kc kr, m (Str.ofString "columns") = some (.int c kc) ∧ m (Str.ofString "rows") = some (.int r kr) ∧ 0 < c ∧ c ≤ 4 ∧ 0 < r ∧ r ≤ 3)
def BadE (h₀ : Heap) (L lp lc : Addr) (R' : Led) (b : Nat) (m₁ : Str → Option Value) (s₁ s₂ : Shared) : Prop :=
  ∃ h' tk m' i v ki kv np d kd, s₂ = { s₁ with heap := h', toks := tk } ∧ Fr h₀ L h' m' ∧ News h₀ L h' ((lp, penO lc i v ki kv np) :: R') ∧ PenB i v b ∧
    m' (Str.ofString "count") = some (.int d kd) ∧ 0 ≤ d ∧ d < 61 ∧ m' (Str.ofString "columns") = m₁ (Str.ofString "columns") ∧ m' (Str.ofString "rows") = m₁ (Str.ofString "rows")
def BadP (h₀ : Heap) (L lp lc : Addr) (R' : Led) (b : Nat) (m₁ : Str → Option Value) (s₁ : Shared) (Q : Flow → Shared → Prop) (f : Flow) (s₂ : Shared) : Prop :=
  match f with
  | .ret v => Q (.ret v) s₂
  | .brk => Q .next s₂
  | _ => BadE h₀ L lp lc R' b m₁ s₁ s₂
def BadJ (lp lc : Addr) (R : Led) (m₀ : Str → Option Value) (k : Nat) (m : Str → Option Value) (nx : Led) : Prop :=
  ∃ i v ki kv np, nx = (lp, penO lc i v ki kv np) :: R ∧ PenB i v (100 - k) ∧ m (Str.ofString "columns") = m₀ (Str.ofString "columns") ∧ m (Str.ofString "rows") = m₀ (Str.ofString "rows") ∧
    (1 ≤ k → ∃ d kd, m (Str.ofString "count") = some (.int d kd) ∧ 0 ≤ d ∧ d < 61)
section
variable {prog : Program} {w : World} {A : Around} {E : Value → Shared → Prop} {s : Shared} {env : Env} {h₀ : Heap} {x : Str} {body : List Stmt} {Q : Flow → Shared → Prop}
theorem law_loop {r lp lc pc : Addr} {ws : List Value} {oc : Obj} {p q : Addr × Obj} {t₀ u₀ v₀ k1 k2 : Tok} {m₀ : Str → Option Value}
    (hh : A.handled = none) (hr : IsRange s.heap r 0 2 1 t₀ u₀ v₀) (F : Fr h₀ env.locals s.heap m₀) (N : News h₀ env.locals s.heap [(lp, listOf #[.ref lc, .int 0 k1, .int 0 k2] 0), (lc, listOf ws.toArray 0), p, q, (pc, oc)])
    (l1 : @LT.lt Nat _ lc lp) (l2 : @LT.lt Nat _ pc lp)
    (turn : ∀ i v ki kv np t h tk (R' : Led) (m₁ : Str → Option Value) (j : Int) (b : Nat), PenB i v (b + 20) → (lc, listOf ws.toArray 0) ∈ R' → (pc, oc) ∈ R' → (∀ p ∈ R', p.1 ≠ lp) → Fr h₀ env.locals h (fun y => if y = x then some (.int j t) else m₁ y) → News h₀ env.locals h ((lp, penO lc i v ki kv np) :: R') →
      wpAny (model prog w) A (execs body env) (LawP h₀ env.locals lp lc R' b { s with heap := h, toks := tk } Q) E { s with heap := h, toks := tk })
    (done : ∀ m₁ h tk i v ki kv np c r kc kr, lc ≠ lp → PenB i v 100 → Fr h₀ env.locals h m₁ → News h₀ env.locals h [(lp, penO lc i v ki kv np), (lc, listOf ws.toArray 0), (pc, oc)] →
      m₁ (Str.ofString "columns") = some (.int c kc) → m₁ (Str.ofString "rows") = some (.int r kr) → 0 < c → c ≤ 4 → 0 < r → r ≤ 3 → Q .next { s with heap := h, toks := tk }) :
    wpAny (model prog w) A (pyIter (.ref r)) (fun it s₂ => LoopAtV prog w A h₀ env x body Q E it s₂) E s := by
  have N3 : News h₀ env.locals s.heap [(lp, penO lc 0 0 k1 k2 0), (lc, listOf ws.toArray 0), (pc, oc)] := newsDrop N fun a ha => by
    rcases List.mem_cons.mp ha with rfl | ha
    · exact List.mem_cons_self
    rcases List.mem_cons.mp ha with rfl | ha
    · exact List.mem_cons_of_mem _ List.mem_cons_self
    rw [List.mem_singleton.mp ha]
    exact List.mem_cons_of_mem _ (List.mem_cons_of_mem _ (List.mem_cons_of_mem _ (List.mem_cons_of_mem _ List.mem_cons_self)))
  refine iter_rangeG (n := 2) (LawJ lp lc pc ws oc) hh hr (by decide) (by decide) F N3 ⟨0, 0, k1, k2, 0, rfl, ⟨by decide, by decide, by decide⟩, fun h => absurd h (by decide)⟩ ?_ ?_
  · rintro k t m₁ nx h tk own hk hoff ⟨i, v, ki, kv, np, rfl, pb, _⟩ F₁ N₁
    have N₂ : News h₀ env.locals h ((lp, penO lc i v ki kv np) :: ((lc, listOf ws.toArray 0) :: (pc, oc) :: own)) := N₁
    refine wpAny_mono (turn i v ki kv np t h tk ((lc, listOf ws.toArray 0) :: (pc, oc) :: own) m₁ (0 + (k : Int) * 1) (300 - 100 * (k + 1)) (pb.mono (by omega)) List.mem_cons_self (List.mem_cons_of_mem _ List.mem_cons_self) (fun a ha => ?_) F₁ N₂) (fun f s₂ z => ?_) fun _ _ e => e
    · rcases List.mem_cons.mp ha with rfl | ha
      · exact Nat.ne_of_lt l1
      rcases List.mem_cons.mp ha with rfl | ha
      · exact Nat.ne_of_lt l2
      exact hoff a ha lp List.mem_cons_self
    · have conv : LawE h₀ env.locals lp lc ((lc, listOf ws.toArray 0) :: (pc, oc) :: own) (300 - 100 * (k + 1)) { s with heap := h, toks := tk } s₂ → InvEndN h₀ env.locals (LawJ lp lc pc ws oc (k + 1)) own ([(lp, penO lc 0 0 k1 k2 0), (lc, listOf ws.toArray 0), (pc, oc)].map (·.1)) { s with heap := h, toks := tk } s₂ := by
        rintro ⟨h', tk', m', i', v', ki', kv', np', e, F', N', g1, cr⟩
        refine ⟨h', tk', m', _, [(lp, penO lc i' v' ki' kv' np'), (lc, listOf ws.toArray 0), (pc, oc)], e, F', N', fun a ha => ?_, fun a ha => List.mem_cons_of_mem _ (List.mem_cons_of_mem _ (List.mem_cons_of_mem _ ha)), rfl, ⟨i', v', ki', kv', np', rfl, g1, fun _ => cr⟩⟩
        rcases List.mem_cons.mp ha with rfl | ha
        · exact List.mem_cons_self
        rcases List.mem_cons.mp ha with rfl | ha
        · exact List.mem_cons_of_mem _ List.mem_cons_self
        rw [List.mem_singleton.mp ha]
        exact List.mem_cons_of_mem _ (List.mem_cons_of_mem _ List.mem_cons_self)
      cases f with
      | ret v => exact z
      | brk => exact z
      | next => exact conv z
      | cont => exact conv z
  · rintro m₁ nx h tk ⟨i, v, ki, kv, np, rfl, pb, cr⟩ F₁ N₁
    obtain ⟨c, r', kc, kr, e1, e2, b1, b2, b3, b4⟩ := cr (by decide)
    exact done m₁ h tk i v ki kv np c r' kc kr (Nat.ne_of_lt l1) pb F₁ N₁ e1 e2 b1 b2 b3 b4
theorem ne_of_obj {L : Addr} {h : Heap} {S : Led} (N : News h₀ L h S) {a b : Addr} {o u : Obj} (m1 : (a, o) ∈ S) (m2 : (b, u) ∈ S) (hne : o ≠ u) : a ≠ b := by
  rintro rfl
  exact hne (Option.some.inj ((N _ m1).1.symm.trans (N _ m2).1))
/-- the loop over two bad sizes, its turn told once -/
theorem iter_bad {ax l1 l2 lp lc pc na nc np : Nat} {oc : Obj} {u : Option Value} {i v : Int} {ki kv : Tok} {ws : List Value} {S : Led} {m₀ : Str → Option Value}
    (hh : A.handled = none) (F : Fr h₀ env.locals s.heap m₀) (N : News h₀ env.locals s.heap S) (ma : (ax, tupO #[.ref l1, .ref l2] na) ∈ S) (mp : (lp, penO lc i v ki kv np) ∈ S) (mc : (lc, listOf ws.toArray nc) ∈ S) (hc : lc ≠ lp) (mo : (pc, oc) ∈ S) (ho : oc.data = Data.cell u) (b1 : BadAt w S l1) (b2 : BadAt w S l2) (pb : PenB i v 100)
    (turn : ∀ i v ki kv np h tk (R' : Led) (m₁ : Str → Option Value) (l : Addr) (b : Nat), PenB i v (b + 1) → (lc, listOf ws.toArray nc) ∈ R' → (pc, oc) ∈ R' → (∀ p ∈ R', p.1 ≠ lp) → BadAt w R' l → Fr h₀ env.locals h (fun y => if y = x then some (.ref l) else m₁ y) → News h₀ env.locals h ((lp, penO lc i v ki kv np) :: R') →
      wpAny (model prog w) A (execs body env) (BadP h₀ env.locals lp lc R' b m₁ { s with heap := h, toks := tk } Q) E { s with heap := h, toks := tk })
    (done : ∀ m₁ h tk d kd, Fr h₀ env.locals h m₁ → m₁ (Str.ofString "count") = some (.int d kd) → 0 ≤ d → d < 61 → m₁ (Str.ofString "columns") = m₀ (Str.ofString "columns") → m₁ (Str.ofString "rows") = m₀ (Str.ofString "rows") → Q .next { s with heap := h, toks := tk }) :
    wpAny (model prog w) A (pyIter (.ref ax)) (fun it s₂ => LoopAtV prog w A h₀ env x body Q E it s₂) E s := by
  have hl : s.heap.IsTuple ax #[.ref l1, .ref l2] := ⟨_, (N _ ma).1, rfl, na, rfl⟩
  have hlt : ax < s.heap.objs.size := Heap.lt_size (N _ ma).1
  have hap : ax ≠ lp := ne_of_obj N ma mp (fun e => by have := congrArg Obj.cls e; simp [W.listOf] at this)
  have hac : lc ≠ ax := ne_of_obj N mc ma (fun e => by have := congrArg Obj.cls e; simp [W.listOf] at this)
  obtain ⟨R, mR⟩ : ∃ R : Led, ∀ p, p ∈ R ↔ p ∈ S ∧ p.1 ≠ lp ∧ p.1 ≠ ax := ⟨S.filter fun p => decide (p.1 ≠ lp ∧ p.1 ≠ ax), fun p => by rw [List.mem_filter, decide_eq_true_iff]⟩
  have key : ∀ {q : Addr × Obj}, q ∈ S → q.2 ≠ penO lc i v ki kv np → q.2 ≠ tupO #[.ref l1, .ref l2] na → q ∈ R := fun hq e1 e2 => (mR _).mpr ⟨hq, ne_of_obj N hq mp e1, ne_of_obj N hq ma e2⟩
  have dec : ∀ {a n : Nat} {X : Int}, DecAt w S a n X → DecAt w R a n X := fun d => by
    obtain ⟨dd, i1, i2, i3, i4, t, p, h1, h2, h3⟩ := d.ex
    refine .mk' (key h1 ?_ ?_) (key h2 ?_ ?_) h3 <;> (intro e; have := congrArg Obj.cls e; simp [W.listOf, instObj, dictOf] at this)
  have bad : ∀ {l : Addr}, BadAt w S l → BadAt w R l := fun b => by
    obtain ⟨a1, a2, n, n1, n2, X1, X2, e, d1, d2, hx⟩ := b.ex
    refine ⟨a1, a2, n, n1, n2, X1, X2, key e ?_ ?_, dec d1, dec d2, hx⟩
    · intro e; have := congrArg Obj.data e; simp [W.listOf] at this
    · intro e; have := congrArg Obj.cls e; simp [W.listOf] at this
  have c1 := bad b1
  have c2 := bad b2
  have N2 : News h₀ env.locals s.heap ((lp, penO lc i v ki kv np) :: R) := fun p hp => (List.mem_cons.mp hp).elim (fun e => e ▸ N _ mp) fun h => N p ((mR p).mp h).1
  have mc2 : (lc, listOf ws.toArray nc) ∈ R := (mR _).mpr ⟨mc, hc, hac⟩
  have mo2 : (pc, oc) ∈ R := key mo (fun e => by have := congrArg Obj.data e; simp [W.listOf, ho] at this) (fun e => by have := congrArg Obj.data e; simp [ho] at this)
  have offR : ∀ p ∈ R, p.1 ≠ lp := fun p hp => ((mR p).mp hp).2.1
  have offA : ∀ p ∈ R, p.1 ≠ ax := fun p hp => ((mR p).mp hp).2.2
  refine wpAny_pyIter_tuple hl ?_
  have up : ∀ b o, s.heap.get? b = some o → (s.heap.push { cls := .type "tuple_iterator", data := .fields #[.ref ax, .int 0 0] }).get? b = some o := fun b o e => Heap.get?_push_of_some _ e
  refine loop_invN (BadJ lp lc R m₀) (Walks.tuple hh s.heap.objs.size ax (Nat.ne_of_lt hlt) #[.ref l1, .ref l2]) ?_ ?_ ?_ ?_ ⟨⟨_, Heap.get?_push_size _ rfl, rfl, rfl⟩, hl.at fun o e => up _ o e⟩ (F.keeps up) (N2.grown up) ⟨i, v, ki, kv, np, rfl, pb, rfl, rfl, fun h => absurd h (by decide)⟩ ?_ ?_
  · intro hm
    rcases List.mem_cons.mp hm with e | hm
    · exact absurd F.ns.lt (e ▸ Nat.lt_irrefl _)
    · exact (N _ ma).2.1 (List.mem_singleton.mp hm).symm
  · intro b hb
    rw [List.mem_singleton.mp hb]
    exact next_is_new F
  · intro p hp hI
    exact absurd (Heap.lt_size (N2 p hp).1) ((List.mem_singleton.mp hI) ▸ Nat.lt_irrefl _)
  · intro p hp hI
    rcases List.mem_cons.mp hI with e | hI
    · exact absurd (Heap.lt_size (N2 p hp).1) (e ▸ Nat.lt_irrefl _)
    · have e := List.mem_singleton.mp hI
      rcases List.mem_cons.mp hp with rfl | hp
      · exact hap e.symm
      · exact offA p hp e
  · rintro k u m₁ nx h tk own hk hP _ hoff ⟨i, v, ki, kv, np, rfl, pb, e1, e2, _⟩ F₁ N₁
    have hu : ∃ l, u = .ref l ∧ BadAt w R l := by
      match k, hP with
      | 0, hP => cases hP; exact ⟨l1, rfl, c1⟩
      | 1, hP => cases hP; exact ⟨l2, rfl, c2⟩
      | k + 2, _ => exact absurd hk (by simp)
    obtain ⟨l, rfl, hb⟩ := hu
    have hk2 : k < 2 := hk
    have eb : 100 - k = (100 - (k + 1)) + 1 := by omega
    rw [eb] at pb
    have N₂ : News h₀ env.locals h ((lp, penO lc i v ki kv np) :: (R ++ own)) := N₁
    refine wpAny_mono (turn i v ki kv np h tk (R ++ own) m₁ l _ pb (List.mem_append_left _ mc2) (List.mem_append_left _ mo2) (fun a ha => ?_) (hb.mono fun p hp => List.mem_append_left _ hp) F₁ N₂) (fun f s₂ z => ?_) fun _ _ e => e
    · rcases List.mem_append.mp ha with ha | ha
      · exact offR a ha
      · exact hoff a ha lp List.mem_cons_self
    · have conv : BadE h₀ env.locals lp lc (R ++ own) (100 - (k + 1)) m₁ { s with heap := h, toks := tk } s₂ → InvEndN h₀ env.locals (BadJ lp lc R m₀ (k + 1)) own (((lp, penO lc i v ki kv np) :: R).map (·.1)) { s with heap := h, toks := tk } s₂ := by
        rintro ⟨h', tk', m', i', v', ki', kv', np', d, kd, e, F', N', g1, g2, g3, g4, g5, g6⟩
        exact ⟨h', tk', m', _, (lp, penO lc i' v' ki' kv' np') :: R, e, F', N', fun a ha => (List.mem_cons.mp ha).elim (fun e => e ▸ List.mem_cons_self) (fun h => List.mem_cons_of_mem _ (List.mem_append_left _ h)), fun a ha => List.mem_cons_of_mem _ (List.mem_append_right _ ha), rfl, ⟨i', v', ki', kv', np', rfl, g1, g5.trans e1, g6.trans e2, fun _ => ⟨d, kd, g2, g3, g4⟩⟩⟩
      cases f with
      | ret v => exact z
      | brk => exact z
      | next => exact conv z
      | cont => exact conv z
  · rintro m₁ nx h tk ⟨i, v, ki, kv, np, rfl, pb, e1, e2, cr⟩ F₁ N₁
    obtain ⟨d, kd, g1, g2, g3⟩ := cr (by exact Nat.le_of_ble_eq_true rfl)
    exact done m₁ h tk d kd F₁ g1 g2 g3 e1 e2
end
theorem neg_dec (k : Nat) : (-1 : Int) * 10 ^ k ≤ 0 := by
  have h := p10_pos k
  generalize (10 : Int) ^ k = z at *
  omega
theorem fit_eq {m d : Int} (h0 : 0 ≤ d) (h1 : d ≤ 12) : m * 10 ^ (12 - d.toNat) = m * 10 ^ (12 - d).toNat := by
  have e : (12 - d).toNat = 12 - d.toNat := by omega
  rw [e]
theorem fr3 {h₀ h : Heap} {L : Addr} {m : Str → Option Value} {vn vc vr : Value} (F : Fr h₀ L h m) (h1 : m (Str.ofString "count") = some vn) (h2 : m (Str.ofString "columns") = some vc) (h3 : m (Str.ofString "rows") = some vr) :
    Fr h₀ L h (fun y => if y = Str.ofString "count" then some vn else if y = Str.ofString "columns" then some vc else if y = Str.ofString "rows" then some vr else m y) := by
  have e : m = (fun y => if y = Str.ofString "count" then some vn else if y = Str.ofString "columns" then some vc else if y = Str.ofString "rows" then some vr else m y) := by
    funext y
    split
    · rename_i e; rw [e, h1]
    · split
      · rename_i e; rw [e, h2]
      · split
        · rename_i e; rw [e, h3]
        · rfl
  rw [← e]; exact F
theorem no_newsF {h₀ h : Heap} {L : Addr} {m : Str → Option Value} (_ : Fr h₀ L h m) : News h₀ L h [] := fun _ h => nomatch h
theorem fld_len {ns : List Int} {l : Nat} : (fld1 ns l ++ fld2 ns l l).length = 4 * l := by rw [List.length_append, fld1_length, fld2_length]; omega
theorem drop_2nd {h₀ h : Heap} {L : Addr} {a b : Addr × Obj} {r : Led} (N : News h₀ L h (a :: b :: r)) : News h₀ L h (a :: r) := newsDrop N fun p hp => (List.mem_cons.mp hp).elim (fun e => e ▸ List.mem_cons_self) (fun h => List.mem_cons_of_mem _ (List.mem_cons_of_mem _ h))

end
set_option hygiene false in
local macro_rules | `(tactic| k_lt $h:ident) => return q `(tactic| replace $h := allLt_of $h)
set_option hygiene false in
local macro_rules | `(tactic| walk_at "pyIter ref") => return sq [wr (q `(tactic| show wpAny _ _ (pyIter (Value.ref _)) (fun it s₂ => LoopAtV _ _ _ _ _ _ _ _ _ it s₂) _ _)), stop]
set_option hygiene false in
local macro_rules | `(tactic| walk_at "exec For Name Tuple cons nil") => return sq [tk "k_here", rn "Fr _ _ _ _" "lF'", wu (re (ap "For_invVF" [tm "lF'", byT (ex (tm "rfl")), byT (ex (tm "rfl")), tm "?_"])), tk "k_whole"]
set_option hygiene false in
local macro_rules | `(tactic| k_extra "m:mem") => return fi [wr (tk "assumption"), ex (tm "List.mem_cons_self"), sq [rf (tm "List.mem_cons_of_mem _ ?_"), kx "m:mem"], sq [wr (rf (ap "Sub.up" [byT (wr (tk "assumption")), tm "_", tm "?_"])), kx "m:mem"]]
set_option hygiene false in
local macro_rules | `(tactic| k_extra "m:sub") => return fi [ex (tm "sub0"), sq [so "List.nil_append List.cons_append", kx "m:sub"], sq [re (ap "List.forall_mem_cons.mpr" [an [byT (kx "m:mem"), tm "?_"]]), kx "m:sub"], sq [re (tm "sub1 ?_"), kx "m:sub"], sq [wr (re (ap "subUp" [byT (wr (tk "assumption")), tm "?_"])), kx "m:sub"]]
set_option hygiene false in
local macro_rules | `(tactic| k_extra "m:fact") => return fi [wr (tk "assumption"), tk "omega", tk "decide"]
set_option hygiene false in
local macro_rules | `(tactic| k_extra "m:ltA") => return fi [wr (tk "assumption"), ex (ap "LtA.lt" [byT (wr (tk "assumption"))]), ex (ap "lt_ofMem" [byT (wr (tk "assumption")), byT (kx "m:mem")]), ex (ap "lt_upA" [byT (wr (tk "assumption")), byT (wr (tk "assumption")), byT (kx "m:mem")])]
set_option hygiene false in
local macro_rules | `(tactic| walk_at "SrcX") => return sq [tk "k_here", df (fi [sq [rf (tm "srcPen ?hr76 ?Fr76 ?Nr76 ?Tr76 ?offr76 ?pbr76 ?_ ?_"), cs "hr76" (ex (tm "rfl")), cl "Fr76 k_asm Nr76 assumption", cs "Tr76" (ex (ap "Nat.ne_of_gt" [byT (kx "m:ltA")])), cl "offr76 assumption pbr76 assumption", it "g' b' ys' i' v' ki' kv' np' R' u' I' oI' C' oC' D' m' h' tk' E' pb' sb' of' mT' hC' hx' F' N' o3' ne'", q `(tactic| rotate_left), tk "intros", q `(tactic| rotate_right)], sq [rf (tm "SrcX.lst ?hr76 ?Fr76 ?Nr76 ?mr76 ?zr76 ?_"), cs "hr76" (ex (tm "rfl")), cl "Fr76 k_asm Nr76 k_asm mr76 m:mem", cs "zr76" (fi [tk "size_fits", ex (tm "Nat.le_of_ble_eq_true rfl")]), it "g'", tk "lcg_lit", rf (ap "compDecs2" [byT (kx "m:decat"), byT (kx "m:decat"), tm "?_", tm "?_"]), it "a' n' X' ys' I' oI' C' oC' D' m' h' tk' E' d' hC' hx' F' N' off' ne'", q `(tactic| rotate_left), tk "intros", q `(tactic| rotate_right)]])]
set_option hygiene false in
local macro_rules | `(tactic| walk_at "EltI") => return ex (an [tm "rfl", tm "_", tm "rfl"])
set_option hygiene false in
local macro_rules | `(tactic| walk_at "CompEnd") => return df (re (ap "compEndPen" [byT (tk "k_asm"), byT (tk "assumption"), byT (tk "assumption"), byT (tk "assumption"), byT (tk "assumption"), byT (tk "assumption"), byT (tk "assumption"), byT (tk "assumption"), byT (tk "assumption"), byT (tk "assumption")]))
set_option hygiene false in
local macro_rules | `(tactic| walk_at "FinA") => return sq [re (ap "finPen" [byT (tk "assumption"), tm "?_"]), it "D' h' tk' S' F' N' of' sb' mD'", tr (tk "dsimp_only")]
set_option hygiene false in
local macro_rules | `(tactic| k_extra "m:dr") => return sq [cl "kF k_asm kN assumption kB k_asm kX k_asm kT k_asm", cs "kk" (fi [ex (tm "rfl"), tk "assumption"]), cl "ko assumption ks m:sub kmc m:mem", cs "khi" (wr (tk "assumption")), cl "kne assumption khl assumption kpb assumption k4 decide k5 decide kd ktr_room ku ktr_units"]
set_option hygiene false in
local macro_rules | `(tactic| walk_at "call ref") => return sq [tk "k_here", shc 316, df (fi [sq [rf (tm "drB0 ?kB ?kF ?kX ?kN ?kT ?kk ?kmc ?khi ?kne ?khl ?kpb ?k4 ?k5 ?ko ?kd ?ku ?_"), kx "m:dr1"], sq [rf (tm "drB3 ?kB ?kF ?kX ?kN ?kT ?kk ?kmc ?khi ?kne ?khl ?kpb ?k4 ?k5 ?ko ?kd ?ku ?_"), kx "m:dr1"], sq [rf (tm "drD ?kB ?kF ?kX ?kN ?ks ?kT ?kk ?kmc ?khi ?kne ?khl ?kpb ?k4 ?k5 ?ko ?kd ?ku ?_"), kx "m:dr"]]), it "d9 i9 v9 t9 ki9 kv9 np9 h9 tk9 F9 N9 b9 c9 pb9", tr (tk "dsimp_only")]
set_option hygiene false in
local macro_rules | `(tactic| k_extra "m:dr1") => return sq [cl "kF k_asm kN assumption kB k_asm kX k_asm kT k_asm", cs "kk" (fi [ex (tm "rfl"), tk "assumption"]), cl "ko assumption kmc m:mem", cs "khi" (wr (tk "assumption")), cl "kne assumption khl assumption kpb assumption k4 decide k5 decide kd ktr_room ku ktr_units"]
set_option hygiene false in
local macro_rules | `(tactic| walk_at "call ref") => return th (sq [tk "k_here", df (fi [sq [shw (ap "call" [ap "Value.ref" [num 155], qt `([Value.int (1 + _) _, Value.int _ _])]), sq [rf (tm "use_decA ?zN ?zC ?z1 ?z2 ?z3 ?z4 ?zB ?zF ?zX ?zT ?zk ?zd ?zu ?_"), cl "zN k_asm", cs "zC" (ex (ap "dec_newV" [byT (kx "m:fact"), byT (kx "m:fact")])), cl "z1 omega z2 omega z3 omega z4 omega", kx "m:k1", tk "intros"]], sq [shc 155, sq [rf (tm "use_decO ?zN ?zC ?zB ?zF ?zX ?zT ?zk ?zd ?zu ?_"), cl "zN k_asm", cs "zC" (ex (ap "dec_newV" [byT (tk "decide"), byT (tk "decide")])), kx "m:k1", tk "intros"]], sq [shc 323, sq [rf (tm "use_int ?zN ?zC ?zB ?zF ?zX ?zT ?zk ?zd ?zu ?_"), cl "zN k_asm", cs "zC" (ex (ap "law_largeO" [byT (kx "m:decat")])), kx "m:k1", tk "intros"]], sq [shc 335, sq [rf (tm "use_int ?zN ?zC ?zB ?zF ?zX ?zT ?zk ?zd ?zu ?_"), cl "zN k_asm", cs "zC" (ex (ap "law_scale_lG" [byT (kx "m:mem"), byT (kx "m:mem"), byT (tk "assumption"), byT (tk "assumption"), byT (kx "m:fact"), byT (kx "m:fact")])), kx "m:k1", tk "intros"]], sq [shc 340, sq [rf (tm "use_bool ?zN ?zC ?zB ?zF ?zX ?zT ?zk ?zd ?zu ?_"), cl "zN k_asm", cs "zC" (ex (ap "law_cells_rightG" [byT (kx "m:mem"), byT (kx "m:decat"), byT (kx "m:decat"), byT (kx "m:mem"), byT (kx "m:decat"), byT (kx "m:decat"), byT (tk "assumption"), byT (tk "assumption"), byT (tk "assumption"), byT (tk "assumption"), byT (kx "m:fact"), byT (kx "m:fact"), byT (kx "m:fact"), byT (kx "m:fact"), byT (kx "m:fact"), byT (kx "m:fact")])), kx "m:k1", tk "intros"]], sq [shc 278, sq [rf (tm "use_decO ?zN ?zC ?zB ?zF ?zX ?zT ?zk ?zd ?zu ?_"), cl "zN k_asm", cs "zC" (ex (ap "fit_lG" [byT (kx "m:mem"), byT (kx "m:decat"), byT (kx "m:decat"), byT (kx "m:mem"), byT (kx "m:decat"), byT (kx "m:decat"), byT (tk "assumption"), byT (tk "assumption"), byT (kx "m:fact"), byT (kx "m:fact")])), kx "m:k1", tk "intros"]]])]) (sq [tr (tk "k_sweep"), tr (tk "dsimp_only"), tr (tk "k_fold")])
set_option hygiene false in
local macro_rules | `(tactic| walk_at "exec Try") => return sq [tk "k_here", df (re (tm "wpAny_Try_except ?_"))]
set_option hygiene false in
local macro_rules | `(tactic| walk_at "call ref") => return sq [tk "k_here", shc 278, df (sq [rf (tm "spx_use ?kBr85 ?kFr85 ?kXr85 ?kNr85 ?kTr85 ?kkr85 ?kCr85 ?kdr85 ?kur85 ?_"), cl "kBr85 k_asm kFr85 k_asm kXr85 k_asm kNr85 k_asm kTr85 k_asm", cs "kkr85" (fi [ex (tm "rfl"), tk "assumption"]), cs "kCr85" (ex (ap "fit_badO" [ap "BadAt.mono" [byT (wr (tk "assumption")), byT (kx "m:sub")]])), cl "kdr85 ktr_room kur85 ktr_units"]), it "e9 g9 h9 tk9 F9 R9 U9", tr (tk "dsimp_only")]
set_option hygiene false in
local macro_rules | `(tactic| walk_at "noteFrame ref") => return stop
set_option hygiene false in
local macro_rules | `(tactic| k_extra "m:W") => return fi [sq [wr (q `(tactic| show SpW _ _ (Value.ref 309) _ _ _)), ex (ap "booklet" [byT (tk "omega"), byT (tk "omega")])], sq [wr (q `(tactic| show SpW _ _ (Value.ref 345) _ _ _)), ex (ap "folded" [byT (kx "m:mem"), byT (wr (tk "assumption")), byT (tk "assumption"), byT (tk "omega")])], sq [wr (q `(tactic| show SpW _ _ (Value.ref 304) _ _ _)), ex (ap "grouped" [byT (kx "m:mem"), byT (wr (tk "assumption")), byT (wr (tk "assumption")), byT (wr (tk "assumption")), byT (wr (tk "assumption"))])]]
set_option hygiene false in
local macro_rules | `(tactic| k_extra "m:309") => return sq [df (sq [rf (tm "spw_use ?kBr88 ?kFr88 ?kXr88 ?kNr88 ?kTr88 ?kkr88 ?kCr88 ?kdr88 ?kur88 ?_"), cl "kFr88 assumption kNr88 assumption kBr88 k_asm kXr88 k_asm kTr88 k_asm", cs "kkr88" (fi [ex (tm "rfl"), tk "assumption"]), cl "kCr88 m:W kdr88 ktr_room kur88 ktr_units"]), it "r9 nw9 h9 tk9 F9 N9 sub9 p9", q `(tactic| obtain ⟨D9, ys9, c9, rfl, m9, is9⟩ := p9), tr (tk "dsimp_only")]
set_option hygiene false in
local macro_rules | `(tactic| walk_at "binaryOp Mult ref int") => return sq [tk "k_here", shw (ap "binaryOp" [tm "Operator.Mult", tm "Value.ref _", tm "Value.int _ _"]), df (sq [rf (tm "KM.mul ?mFr89 ?mNr89 ?mLr89 ?mIr89 ?mAr89 ?mBr89 ?mZr89 ?_"), cl "mFr89 assumption mNr89 assumption", cs "mLr89" (ex (ap "News.isList" [byT (tk "assumption"), tm "List.mem_cons_self"])), cs "mIr89" (ex (tm "IntsAre.cons _ _ IntsAre.nil")), cl "mAr89 omega mBr89 omega", cs "mZr89" (sq [so "List.length_cons List.length_nil", tk "omega"])]), it "D' h' F' N' l1 i1 n1 s1 e1 e2 e3", tr (pw "k_lt" "l1"), tr (tk "dsimp_only")]
set_option hygiene false in
local macro_rules | `(tactic| walk_at "binaryOp Add ref ref") => return sq [tk "k_here", shw (ap "binaryOp" [tm "_", tm "Value.ref _", tm "Value.ref _"]), df (sq [rf (tm "kmk_add_ints ?mFr90 ?mNr90 ?mAr90 ?mBr90 ?mIr90 ?mJr90 ?_ ?mZr90"), cl "mFr90 assumption mNr90 assumption", cs "mAr90" (ex (ap "News.isList" [byT (tk "assumption"), byT (kx "m:mem")])), cs "mBr90" (ex (ap "News.isList" [byT (tk "assumption"), byT (kx "m:mem")])), cl "mIr90 assumption mJr90 assumption mZr90 m:sz"]), it "D' ws' h' F' N' l1 hI'", tr (pw "k_lt" "l1"), tr (tk "dsimp_only")]
set_option hygiene false in
local macro_rules | `(tactic| k_extra "m:sz") => return sq [q `(tactic| rw [sizeLine_eq]), tk "omega"]
set_option hygiene false in
local macro_rules | `(tactic| walk_at "call builtin:len") => return sq [tk "k_here", shw (ap "call" [ap "Value.builtin" [qt `("len")], qt `([Value.ref _])]), df (re (ap "KM.len_K" [byT (tk "assumption"), byT (kx "m:mem"), byT (wr (tk "assumption")), byT (tk "omega"), tm "?_"])), tr (tk "dsimp_only")]
set_option hygiene false in
local macro_rules | `(tactic| walk_at "call ref") => return sq [fi [shc 309, shc 345, shc 304], stop]
set_option hygiene false in
local macro_rules | `(tactic| walk_at "exec Assign cons ListComp") => return sq [shw (ap "exec" [ap "Stmt.Assign" [tm "_", ap "PySem.Expr.ListComp" [tm "_", qt `([_, _]), tm "_", tm "_"], tm "_"], tm "_"]), stop]
set_option Elab.async true
def main.tw10204856939554784155 : Nat := 0
def main.tw10234815189450012239 : Nat := 0
def main.tw10363585996791799541 : Nat := 0
def main.tw10391951854915411234 : Nat := 0
def main.tw104360540948158410 : Nat := 0
def main.tw10450603732522932521 : Nat := 0
def main.tw1054321117371714560 : Nat := 0
def main.tw10625486282989778954 : Nat := 0
def main.tw10642606787283503386 : Nat := 0
def main.tw10707853282979444102 : Nat := 0
def main.tw10821422270917381399 : Nat := 0
def main.tw10876375607700338302 : Nat := 0
def main.tw10877679251791092727 : Nat := 0
def main.tw10896356407431480244 : Nat := 0
def main.tw1099256609624015869 : Nat := 0
def main.tw11003572833241299968 : Nat := 0
def main.tw11101190512080308003 : Nat := 0
def main.tw11146036934107921236 : Nat := 0
def main.tw11156056980113079860 : Nat := 0
def main.tw11181722664286889309 : Nat := 0
def main.tw11221353774195762014 : Nat := 0
def main.tw11261727412033496967 : Nat := 0
def main.tw11461230924637031220 : Nat := 0
def main.tw11544348965984651327 : Nat := 0
def main.tw11554813239044494598 : Nat := 0
def main.tw1157997071576566072 : Nat := 0
def main.tw11646826074482590764 : Nat := 0
def main.tw11710404883906591787 : Nat := 0
def main.tw11729630521733628537 : Nat := 0
def main.tw11752208632293872130 : Nat := 0
def main.tw11815829001073249272 : Nat := 0
def main.tw11857135199678951331 : Nat := 0
def main.tw11982392923317675503 : Nat := 0
def main.tw12057704586751987240 : Nat := 0
def main.tw12077450504624328385 : Nat := 0
def main.tw12205347405646519318 : Nat := 0
def main.tw12252054271945606052 : Nat := 0
def main.tw12298629886278197574 : Nat := 0
def main.tw12343854547171428336 : Nat := 0
def main.tw12361340156312767134 : Nat := 0
def main.tw1236483940969888574 : Nat := 0
def main.tw12431731261707249289 : Nat := 0
def main.tw12455012482086183272 : Nat := 0
def main.tw12483276189755474720 : Nat := 0
def main.tw12518504611687188807 : Nat := 0
def main.tw12590340796369385619 : Nat := 0
def main.tw12623159325031504133 : Nat := 0
def main.tw1264294196387467257 : Nat := 0
def main.tw12670839924663504800 : Nat := 0
def main.tw12702744160499308131 : Nat := 0
def main.tw1277820614484962519 : Nat := 0
def main.tw12872379398031375081 : Nat := 0
def main.tw12915833801598196605 : Nat := 0
def main.tw12927740378394474205 : Nat := 0
def main.tw13110577991587790113 : Nat := 0
def main.tw13113777628852026922 : Nat := 0
def main.tw13270728482189477470 : Nat := 0
def main.tw13350764725976880583 : Nat := 0
def main.tw13355152605343272895 : Nat := 0
def main.tw13590572293223372214 : Nat := 0
def main.tw13626721169425172152 : Nat := 0
def main.tw13642826006792871662 : Nat := 0
def main.tw13667920496262714385 : Nat := 0
def main.tw13676971244355772609 : Nat := 0
def main.tw13693970394777133609 : Nat := 0
def main.tw13777938177461255882 : Nat := 0
def main.tw13803360072150633466 : Nat := 0
def main.tw13838900630717943254 : Nat := 0
def main.tw13876859957761632879 : Nat := 0
def main.tw13950467820073009005 : Nat := 0
def main.tw13962693860625380366 : Nat := 0
def main.tw14009396871252706886 : Nat := 0
def main.tw14027531716089632829 : Nat := 0
def main.tw14037251543589262680 : Nat := 0
def main.tw14061640607465278742 : Nat := 0
def main.tw1409966394225722968 : Nat := 0
def main.tw1429040668314091153 : Nat := 0
def main.tw1439166485080882 : Nat := 0
def main.tw14439473939278146460 : Nat := 0
def main.tw14457758005677747962 : Nat := 0
def main.tw14539993770535171780 : Nat := 0
def main.tw14635473669698735251 : Nat := 0
def main.tw14639212616227390028 : Nat := 0
def main.tw14646587721710459877 : Nat := 0
def main.tw14672674291997333471 : Nat := 0
def main.tw14722489848711283861 : Nat := 0
def main.tw14759895335926876869 : Nat := 0
def main.tw14771111431291430275 : Nat := 0
def main.tw14788915703135433725 : Nat := 0
def main.tw14793117695081215449 : Nat := 0
def main.tw14874008761501241426 : Nat := 0
def main.tw14907226015203709474 : Nat := 0
def main.tw15017983477296125989 : Nat := 0
def main.tw1504049600530537962 : Nat := 0
def main.tw15079240505294077160 : Nat := 0
def main.tw1513938828510530698 : Nat := 0
def main.tw15270170921892066516 : Nat := 0
def main.tw15365013842991253249 : Nat := 0
def main.tw1545906260438175962 : Nat := 0
def main.tw15465920861327815835 : Nat := 0
def main.tw15467891735981029475 : Nat := 0
def main.tw15485851114877660061 : Nat := 0
def main.tw15514936471743626214 : Nat := 0
def main.tw15595112118272840620 : Nat := 0
def main.tw15624239662980076321 : Nat := 0
def main.tw15643365686152983790 : Nat := 0
def main.tw15734200111481486640 : Nat := 0
def main.tw15737690656516749961 : Nat := 0
def main.tw15768048840197415361 : Nat := 0
def main.tw15803610866087392283 : Nat := 0
def main.tw15806524323241146399 : Nat := 0
def main.tw16008252555379753968 : Nat := 0
def main.tw16008457594558532635 : Nat := 0
def main.tw16049902774474827687 : Nat := 0
def main.tw16102231251864390963 : Nat := 0
def main.tw16136984950599521427 : Nat := 0
def main.tw16153842264607907944 : Nat := 0
def main.tw16187894506366716058 : Nat := 0
def main.tw16193401482309157537 : Nat := 0
def main.tw16251939892948500945 : Nat := 0
def main.tw1632041292262086317 : Nat := 0
def main.tw16320729459185622934 : Nat := 0
def main.tw16452447596832230105 : Nat := 0
def main.tw16629339528299215175 : Nat := 0
def main.tw16656740534632174751 : Nat := 0
def main.tw16721930046160240684 : Nat := 0
def main.tw1677766988990989824 : Nat := 0
def main.tw16778611742570070204 : Nat := 0
def main.tw1678875084529416142 : Nat := 0
def main.tw16798622893749714585 : Nat := 0
def main.tw16819838333489098493 : Nat := 0
def main.tw16826212616301561204 : Nat := 0
def main.tw16832360635688203351 : Nat := 0
def main.tw16922381011570985944 : Nat := 0
def main.tw16923884221124529275 : Nat := 0
def main.tw16952715711813285254 : Nat := 0
def main.tw17052023290607921161 : Nat := 0
def main.tw17118054049896295152 : Nat := 0
def main.tw17223442867436993403 : Nat := 0
def main.tw17236958762192778904 : Nat := 0
def main.tw17292155258170135553 : Nat := 0
def main.tw17297283025540448806 : Nat := 0
def main.tw17336282652733537790 : Nat := 0
def main.tw17353955331779342651 : Nat := 0
def main.tw17402982504261768225 : Nat := 0
def main.tw17450470499104002142 : Nat := 0
def main.tw17477492558424962760 : Nat := 0
def main.tw17510229520200029679 : Nat := 0
def main.tw17561526911342447988 : Nat := 0
def main.tw17679725944135375923 : Nat := 0
def main.tw17695171507069755227 : Nat := 0
def main.tw17715262827843222689 : Nat := 0
def main.tw17725498274588495791 : Nat := 0
def main.tw17737603089517620647 : Nat := 0
def main.tw1777545030009416734 : Nat := 0
def main.tw17958375852430007124 : Nat := 0
def main.tw17974016328880235120 : Nat := 0
def main.tw18134284020713443437 : Nat := 0
def main.tw18218335207050127959 : Nat := 0
def main.tw1826329307503635854 : Nat := 0
def main.tw18284262389922463811 : Nat := 0
def main.tw18302796317244248524 : Nat := 0
def main.tw18315214858253571532 : Nat := 0
def main.tw18332899500509843999 : Nat := 0
def main.tw18442785490491869365 : Nat := 0
def main.tw2007339730380871907 : Nat := 0
def main.tw2019394398466159022 : Nat := 0
def main.tw2190695567426971638 : Nat := 0
def main.tw2195194259037543316 : Nat := 0
def main.tw221909299271738847 : Nat := 0
def main.tw2225956059507018244 : Nat := 0
def main.tw223528310411579522 : Nat := 0
def main.tw2238316416991798583 : Nat := 0
def main.tw2287757881348798766 : Nat := 0
def main.tw2406621943657119228 : Nat := 0
def main.tw2496676261509829067 : Nat := 0
def main.tw2524017781993486291 : Nat := 0
def main.tw2538046985915079169 : Nat := 0
def main.tw2702614204127132176 : Nat := 0
def main.tw2724176850512262202 : Nat := 0
def main.tw2729793432009153956 : Nat := 0
def main.tw2759098988195820126 : Nat := 0
def main.tw2821470743931037460 : Nat := 0
def main.tw2852251193174398662 : Nat := 0
def main.tw2895952525429962455 : Nat := 0
def main.tw2906824675625879941 : Nat := 0
def main.tw302440914744352476 : Nat := 0
def main.tw3027586509356016917 : Nat := 0
def main.tw3045742163950154196 : Nat := 0
def main.tw3234112476842188716 : Nat := 0
def main.tw3299218664060906527 : Nat := 0
def main.tw3343439749351644125 : Nat := 0
def main.tw341453280667917650 : Nat := 0
def main.tw3466206800631347469 : Nat := 0
def main.tw3532412968194664532 : Nat := 0
def main.tw3549514262204291990 : Nat := 0
def main.tw3557749057250611081 : Nat := 0
def main.tw3562595001068472590 : Nat := 0
def main.tw3613476055612923068 : Nat := 0
def main.tw3626430660855392483 : Nat := 0
def main.tw3779293765908593550 : Nat := 0
def main.tw3796207824708393856 : Nat := 0
def main.tw3829396358689915599 : Nat := 0
def main.tw3848698983108048278 : Nat := 0
def main.tw387501639795913443 : Nat := 0
def main.tw3934531018447913466 : Nat := 0
def main.tw4026956272090484662 : Nat := 0
def main.tw4038153913678941442 : Nat := 0
def main.tw4039676971129161736 : Nat := 0
def main.tw4126091431370883743 : Nat := 0
def main.tw4261964983698606537 : Nat := 0
def main.tw4297412468100583042 : Nat := 0
def main.tw4324958949535026087 : Nat := 0
def main.tw4333880214566435006 : Nat := 0
def main.tw4452170602077327944 : Nat := 0
def main.tw4458048076830672230 : Nat := 0
def main.tw4475767826048309731 : Nat := 0
def main.tw4500915450034043215 : Nat := 0
def main.tw451873465583785326 : Nat := 0
def main.tw4605139254293405059 : Nat := 0
def main.tw4637267157515435788 : Nat := 0
def main.tw4651154628705390771 : Nat := 0
def main.tw4681395471914393968 : Nat := 0
def main.tw4775608329324902142 : Nat := 0
def main.tw4866877142936457035 : Nat := 0
def main.tw4900431672193113347 : Nat := 0
def main.tw496957432446577329 : Nat := 0
def main.tw4990475226369331113 : Nat := 0
def main.tw4996873109452691289 : Nat := 0
def main.tw5061512775090418087 : Nat := 0
def main.tw5083571094942531710 : Nat := 0
def main.tw5102693214775723256 : Nat := 0
def main.tw5107744262632582762 : Nat := 0
def main.tw5127751686995613262 : Nat := 0
def main.tw5203219222101121401 : Nat := 0
def main.tw52199770228462824 : Nat := 0
def main.tw5240536507193477226 : Nat := 0
def main.tw5240779543111244032 : Nat := 0
def main.tw5372645768047454471 : Nat := 0
def main.tw5396188567872606041 : Nat := 0
def main.tw5400957986263281647 : Nat := 0
def main.tw5436791530062809996 : Nat := 0
def main.tw5571399437266216444 : Nat := 0
def main.tw5585478044538960755 : Nat := 0
def main.tw5613160597433933154 : Nat := 0
def main.tw5649967823195072380 : Nat := 0
def main.tw5995161000843957690 : Nat := 0
def main.tw6044114016751833949 : Nat := 0
def main.tw6112859857366181021 : Nat := 0
def main.tw6162249291895867263 : Nat := 0
def main.tw6361450105264607166 : Nat := 0
def main.tw6385024630547198690 : Nat := 0
def main.tw6508729118710982530 : Nat := 0
def main.tw6511744376749373798 : Nat := 0
def main.tw6545385358150927430 : Nat := 0
def main.tw6557543464795787104 : Nat := 0
def main.tw656089360051881306 : Nat := 0
def main.tw65644731488775911 : Nat := 0
def main.tw66260789543402106 : Nat := 0
def main.tw6635558491612396129 : Nat := 0
def main.tw6660377722381337597 : Nat := 0
def main.tw6696893160125735727 : Nat := 0
def main.tw6697339332421208802 : Nat := 0
def main.tw6741292078354696603 : Nat := 0
def main.tw6785657489111691699 : Nat := 0
def main.tw6801380410627298636 : Nat := 0
def main.tw6862492499505807319 : Nat := 0
def main.tw6886502059237256666 : Nat := 0
def main.tw6910295442248876197 : Nat := 0
def main.tw6912675738884088206 : Nat := 0
def main.tw7074144079889050967 : Nat := 0
def main.tw7083192437325867461 : Nat := 0
def main.tw7173623326730630234 : Nat := 0
def main.tw7186131708394509389 : Nat := 0
def main.tw7214478077546791972 : Nat := 0
def main.tw7221758910455160077 : Nat := 0
def main.tw7235775444256392728 : Nat := 0
def main.tw7374449385936029500 : Nat := 0
def main.tw7411558596216406370 : Nat := 0
def main.tw750237026923860459 : Nat := 0
def main.tw7528692076093279249 : Nat := 0
def main.tw7590696779544312186 : Nat := 0
def main.tw7698036289167662538 : Nat := 0
def main.tw7699798408344515789 : Nat := 0
def main.tw7712634645042067442 : Nat := 0
def main.tw7761410557224570781 : Nat := 0
def main.tw7875838824674609581 : Nat := 0
def main.tw8118072479153026202 : Nat := 0
def main.tw8207831470162742035 : Nat := 0
def main.tw8228058824784995430 : Nat := 0
def main.tw832900586485598795 : Nat := 0
def main.tw834873547066669988 : Nat := 0
def main.tw8440099810896429113 : Nat := 0
def main.tw8466321980469482115 : Nat := 0
def main.tw8475525182357872103 : Nat := 0
def main.tw8478376212529829071 : Nat := 0
def main.tw8652556701797213591 : Nat := 0
def main.tw8663697691656813868 : Nat := 0
def main.tw8702109287547822404 : Nat := 0
def main.tw8729708805864041840 : Nat := 0
def main.tw8905464785575363620 : Nat := 0
def main.tw8930851030842425676 : Nat := 0
def main.tw8947760058931562597 : Nat := 0
def main.tw9069182735580402390 : Nat := 0
def main.tw9155575984036265788 : Nat := 0
def main.tw9190990891756207365 : Nat := 0
def main.tw9265829497004654079 : Nat := 0
def main.tw9272984997812220495 : Nat := 0
def main.tw9302470337196694018 : Nat := 0
def main.tw9361300454564663673 : Nat := 0
def main.tw9376575566392132001 : Nat := 0
def main.tw9498315638749924794 : Nat := 0
def main.tw9508770018378322450 : Nat := 0
def main.tw9512817274939609580 : Nat := 0
def main.tw9557352009045844224 : Nat := 0
def main.tw9561784451562097942 : Nat := 0
def main.tw9563168847844234846 : Nat := 0
def main.tw9670510015898674028 : Nat := 0
def main.tw9682133043923132273 : Nat := 0
def main.tw979501456738626862 : Nat := 0
def main.tw9840939614602229412 : Nat := 0
def main.tw9848185148710128376 : Nat := 0
def main.tw9925469786538053656 : Nat := 0
def main.tw9976160756891316704 : Nat := 0
theorem main : PySem.Challenge.rw_pb0475_01.Holds := by
  w_on; o_law; k_head; (case hw => w_witness2)
  have e1 : @Mine.main.heap_1_39 = @Mine.hd0.heap_1_1 := rfl
  have e2 : @Mine.main.view_1_40 = @Mine.hd0.view_1_2 := rfl
  w_strict (k_go0; (all_goals try k_fold))
  rename Frag.In _ _ => X0
  rename Top _ _ _ _ _ _ => T0
  rw [e1] at X0
  rw [e2] at T0
  clear e1 e2
  rename Fr _ _ _ _ => F0
  rename News _ _ _ _ => N0
  rename _ = Data.cell _ => dP
  replace dP : _ = Data.cell none := dP
  rename Heap.IsList _ _ _ => isL
  replace F0 : Fr _ _ _ (fun y => if y = Str.ofString "script" then some (Value.ref _) else none) := F0
  rename IntsAre _ _ => hI
  have hl63 : (_ : List Int).length ≤ 63 := Int.ofNat_le.mp (Int.not_lt.mp (by assumption))
  (try (rename CellsAre _ _ _ => x0; clear x0))
  (try (rename LooseAre _ _ _ => x0; clear x0))
  (try (rename Glob _ _ _ _ _ _ _ _ => x0; clear x0))
  (try (rename TopE _ _ _ _ => x0; clear x0))
  (try (rename TopW _ _ _ => x0; clear x0))
  (try (rename BMod _ _ _ _ _ => x0; clear x0))
  (try (rename Well _ _ _ _ => x0; clear x0))
  (try (rename ReadsAllW _ _ _ _ _ _ => x0; clear x0))
  (try (rename ReadsAll _ _ _ _ => x0; clear x0))
  (try (rename Reads _ _ _ _ => x0; clear x0))
  (try (rename Dflts _ _ _ _ _ _ => x0; clear x0))
  (try (rename Ground _ _ _ _ _ _ _ _ _ => x0; clear x0))
  (try (rename Heap.CodeRec _ _ _ => x0; clear x0))
  (try (rename (_ : Bool) = true => x0; clear x0))
  (try (rename Shape.has _ _ = true => x0; clear x0))
  (try (rename PyData.layable0 _ = true => x0; clear x0))
  (try (rename PyData.layableAll0 _ = true => x0; clear x0))
  (try (rename WShape.hasAll _ _ _ = true => x0; clear x0))
  (try (rename WData.layableAll _ = true => x0; clear x0))
  k_steps
  refine SrcX.lst (by exact rfl) (by k_asm) (by k_asm) List.mem_cons_self (by rw [List.size_toArray, IntsAre.length (by assumption : IntsAre _ (List.take 40 _)), List.length_take, sizeLine_eq]; omega) (fun g' => compInts (by assumption) (fun x => x) (fun k t ys I oI C oC D m₂ h tk E' hk ho hm F N off ne => ?_) (fun ys hy => ?_))
  · k_steps
    all_goals exact ⟨rfl, _, rfl⟩
  · unfold LCg.FinE
    intro D' h' tk' F' N' o1'
    replace N' := drop_2nd N'
    replace o1' := o1'.2.1
    dsimp only at o1'
    k_steps
    unfold Stop
    rename IntsAre _ (_ ++ [29, 3]) => hP0
    obtain ⟨ns, hP, wl, wl2⟩ : ∃ ns, IntsAre _ ns ∧ 0 < ns.length ∧ ns.length ≤ 100 := ⟨_, hP0, by rw [List.length_append]; exact Nat.succ_pos _, by rw [List.length_append, List.length_map, List.length_take]; simp only [List.length_cons, List.length_nil]; omega⟩
    clear hP0
    rename _ = Data.cell (some _) => hoc
    refine law_loop rfl rg9 F9 N9 (by k_extra "m:ltA") (by k_extra "m:ltA") (fun i v ki kv np t h tk R' m₁ j b pb mlc mpc offP F₁ N₁ => hideP fun tp htp => ?_) (fun m₁ h tk i v ki kv np c r kc kr hlp pb F₁ N₁ hcol hrow c0 c1 r0 r1 => ?_)
    · clear F9 N9 rg9
      k_steps
      all_goals first
        | (rename ¬ (_ = _) => hne
           exact absurd (fit_eq (by omega) (by omega)) hne)
        | skip
      (try dsimp only)
      refine htp _ _ ?_
      show LawE _ _ _ _ _ _ _ _
      rename Fr _ _ _ _ => F5
      rename News _ _ _ _ => N5
      exact ⟨_, _, _, _, _, _, _, _, rfl, F5, newsDrop N5 (by k_extra "m:sub"), PenB.mono (by assumption) (Nat.le_add_right _ _), _, _, _, _, rfl, rfl, by omega, by omega, by omega, by omega⟩
    · clear F9 N9 rg9
      k_steps
      unfold Stop
      rename Fr _ _ _ _ => F5
      rename News _ _ _ _ => N5
      refine iter_bad rfl F5 N5 (by k_extra "m:mem") (by k_extra "m:mem") (by k_extra "m:mem") hlp (by k_extra "m:mem") hoc ⟨⟨_, _, _, _, _, _, _, by k_extra "m:mem", by k_extra "m:decat", by k_extra "m:decat", Or.inl (by rw [Int.zero_mul]; exact Int.le_refl _)⟩⟩ ⟨⟨_, _, _, _, _, _, _, by k_extra "m:mem", by k_extra "m:decat", by k_extra "m:decat", Or.inr (neg_dec _)⟩⟩ pb (fun i v ki kv np h tk R' m₁ l b pb mc mo off hb F₁ N₁ => hideP fun tp htp => ?_) (fun m₂ h tk d9 kd F6 hcnt b9 c9 hc2 hr2 => ?_)
      · clear F5 N5
        k_steps
        unfold Stop
        refine tf_caught (KF := Mine.hd0.heap_1_1 _) (by k_asm) F9 U9 R9 (by k_asm) (by k_asm) (by k_is) (by k_is) (by decide) (fun h5 F5 N5 => ?_) (hE := ?_)
        · k_steps
          (try dsimp only)
          refine htp _ _ ?_
          show BadE _ _ _ _ _ _ _ _ _
          rename Fr _ _ _ _ => F5
          rename News _ _ _ _ => N5
          exact ⟨_, _, _, _, _, _, _, _, _, _, rfl, F5, N5, pb9, rfl, b9, c9, rfl, rfl⟩
        · passes_own
      · have F7 := fr3 F6 hcnt (hc2.trans hcol) (hr2.trans hrow)
        have N7 := no_newsF F6
        clear hcol hrow hc2 hr2 hcnt hlp pb
        revert F7 N7
        clear F5 F6 N5
        (repeat (rename Fr _ _ _ _ => x0; clear x0))
        (repeat (rename News _ _ _ _ => x0; clear x0))
        (repeat (rename DecAt _ _ _ _ _ => x0; clear x0))
        (repeat (rename Heap.UpToSlots _ _ => x0; clear x0))
        (repeat (rename _ ∧ _ => x0; clear x0))
        intro F7 N7
        k_steps
        unfold Stop
        k_extra "m:309"
        obtain ⟨ns, l, hns, hlv, is9, hl4⟩ : ∃ ns l, ns = (bkN (4 * ((d9 + 3) / 4) - 1) ((d9 + 3) / 4 - 0).toNat).map (fun x => if x < d9 then x else -1) ∧ l = ((d9 + 3) / 4 - 0).toNat ∧ IntsAre ys9 ns ∧ ns.length = 4 * l := ⟨_, _, rfl, rfl, is9, by rw [List.length_map, bkN_length]⟩
        have hs9 : ys9.toArray.size = 4 * l := by rw [List.size_toArray, is9.length, hl4]
        have hl15 : l ≤ 15 := by rw [hlv]; omega
        have hlc : (4 * l : Int) = (d9 + 3) / 4 * 4 := by rw [hlv]; omega
        k_steps
        unfold Stop
        have mO0 := m9
        k_extra "m:309"
        have mO := sub9 _ mO0
        clear mO0
        obtain ⟨cr1, cr2⟩ := cr_bound c0 c1 r0 r1
        have cr3 : c * r ≤ 1000 := by omega
        have hln : (rangeKs 0 (d9 - 0).toNat).length ≤ 1000 := by rw [rangeKs_length]; omega
        k_steps
        all_goals first
          | exact absurd (p1 (c := d9) (by omega) (by omega) hlv hns) (by assumption)
          | skip
        unfold Stop
        k_extra "m:309"
        k_steps
        unfold Stop
        obtain ⟨pf, pl, pn, pk, pr⟩ := p2 (c := d9) (z := c * r) (by omega) (by omega) cr1 cr2
        replace is9 : Rows nw9 ys9 (rows2 d9 (c * r)) := is9
        rename Fr _ _ _ _ => FF
        rename News _ _ _ _ => NN
        refine Assign_flatN FF NN m9 is9 (Nat.le_trans pn (by decide)) (by rfl) (by rfl) (by rfl) (by rfl) (by rfl) (by decide) (by with_unfolding_all rfl) (by rfl) (by decide) (by rfl) (by decide) (by rfl) (by rfl) (by rfl) (by rfl) (by decide) (by decide) (fun D10 xs h10 tk10 ix F10 N10 => ?_)
        rw [pf] at ix
        clear FF NN
        have m9b := List.mem_cons_of_mem (D10, LCg.lst xs) m9
        have is9b := is9.mono (fun p hp => List.mem_cons_of_mem (D10, LCg.lst xs) hp)
        have hGs : ys9.toArray.size = (rows2 d9 (c * r)).length := by rw [List.size_toArray, is9.len]
        have hq1 := Int.emod_nonneg (-d9) (Int.ne_of_gt cr1)
        have hq2 := Int.emod_lt_of_pos (-d9) cr1
        clear pf pn m9 is9
        generalize hRR : rows2 d9 (c * r) = RR at *
        obtain ⟨G, hG⟩ : ∃ G, RR.length = G := ⟨_, rfl⟩
        rw [hG] at hGs pl pk
        k_steps
        refine SrcX.lst (by exact rfl) (by k_asm) (by k_asm) m9b (by rw [hGs, sizeLine_eq]; omega) (fun g' => compLens is9b (fun a ws n r2 ys I oI C oC D m₂ h tk E' hm hr hs ho hx F N off ne => ?_) (fun ys hy => ?_))
        · have hrl := pr r2 hr
          k_steps
          all_goals exact ⟨rfl, _, rfl⟩
        · rw [pl] at hy
          k_steps

end Mine
theorem PySem.Challenge.cw_pb0475_01_holds : PySem.Challenge.rw_pb0475_01.Holds :=
  Mine.main
