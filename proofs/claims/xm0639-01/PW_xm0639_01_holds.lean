import PyProof.Rows.All
import Wide.All
import OpenK.AllK
import Wide.FinOn
import Lean
import PySem.Challenge.RW_xm0639_01
open PySem PySem.W PyProof.Rows
set_option Elab.async false
namespace Mine
-- Plain numbers. The library lays for each constant of the head below an equality under the head's own name; for the largest ones it
-- would put the compiled file over the lid. A name that is taken is passed over, and the head's check goes through without it.
def hd.tw10727248033764811480 : Nat := 0
def hd.tw2078373114790919327 : Nat := 0
def hd.tw6636469400152089910 : Nat := 0
def hd.tw26425463804135960 : Nat := 0
def hd.tw7850541447822608473 : Nat := 0
def hd.tw4763451143398169428 : Nat := 0
def hd.tw2735741816244006784 : Nat := 0
def hd.tw8537826242697300014 : Nat := 0
def hd.tw2428267877159256709 : Nat := 0
def hd.tw16552077313456050100 : Nat := 0
def hd.tw8626733159069985888 : Nat := 0
def hd.tw16829038064831673031 : Nat := 0
def hd.tw9455348117725058736 : Nat := 0
def hd.tw4138081844389336918 : Nat := 0
def hd.tw15463257786427224491 : Nat := 0
def hd.tw17740048764370220076 : Nat := 0
def hd.tw16240987189780228909 : Nat := 0
def hd.tw7512474625130614241 : Nat := 0
def hd.tw12602439190401603521 : Nat := 0
def hd.tw8934143017859847078 : Nat := 0
def hd.tw525622484199402719 : Nat := 0
def hd.tw6882427118574961969 : Nat := 0
def hd.tw6906073325868019850 : Nat := 0
def hd.tw1699103778626983548 : Nat := 0
def hd.tw13289513938125300765 : Nat := 0
def hd.tw2315301623876862497 : Nat := 0
def hd.tw1382963296337349011 : Nat := 0
def hd.tw5657824000916062451 : Nat := 0
def hd.tw9960721518486171458 : Nat := 0
def hd.tw6785817131721698500 : Nat := 0
def hd.tw7891253978561527248 : Nat := 0
def hd.tw9763420282994701918 : Nat := 0
def hd.tw8716120427605611371 : Nat := 0
def hd.tw6868836192036940282 : Nat := 0
def hd.tw8068729725432388964 : Nat := 0
def hd.tw14892549342360969540 : Nat := 0
def hd.tw16299908979028503884 : Nat := 0
def hd.tw4856431653887292112 : Nat := 0
def hd.tw2386827423013361158 : Nat := 0
def hd.tw8228950375871286339 : Nat := 0
def hd.tw17387473266821786944 : Nat := 0
def hd.tw9673543361469618366 : Nat := 0
def hd.tw3571134770919094901 : Nat := 0
def hd.tw6528754448969337418 : Nat := 0
def hd.tw16302227732802510677 : Nat := 0
def hd.tw4383666589626881386 : Nat := 0
def hd.tw2442259710966052079 : Nat := 0
def hd.tw11251137523995926341 : Nat := 0
def hd.tw6276725880618359904 : Nat := 0
def hd.tw6407587892757256292 : Nat := 0
def hd.tw11513968764499736323 : Nat := 0
def hd.tw14896477498954680388 : Nat := 0
def hd.tw16157073509204512506 : Nat := 0
def hd.tw14060154772996877548 : Nat := 0
def hd.tw9345929723534960622 : Nat := 0
def hd.tw16649331688326792143 : Nat := 0
def hd.tw16640546478005224243 : Nat := 0
def hd.tw17739348878880393726 : Nat := 0
def hd.tw16029623286316568529 : Nat := 0
def hd.tw2788664435532181463 : Nat := 0
def hd.tw7494724483528729301 : Nat := 0
def hd.tw17975533764899295144 : Nat := 0
def hd.tw14980023328507725902 : Nat := 0
def hd.tw4993660671451451078 : Nat := 0
def hd.tw17588044629489971554 : Nat := 0
def hd.tw14353793391729792155 : Nat := 0
def hd.tw12113243949977362033 : Nat := 0
def hd.tw8879563391730754479 : Nat := 0
def hd.tw3429492842335990350 : Nat := 0
def hd.tw3259873300814134281 : Nat := 0
def hd.tw13638418597567726942 : Nat := 0
def hd.tw6804821044290156842 : Nat := 0
def hd.tw13047593935725612058 : Nat := 0
def hd.tw15422856539912107476 : Nat := 0
def hd.tw2999033326186475339 : Nat := 0
def hd.tw2101469004524951375 : Nat := 0
def hd.tw16345102440705955213 : Nat := 0
def hd.tw7610815399733428385 : Nat := 0
def hd.tw15508949281206285077 : Nat := 0
def hd.tw14955159897011116063 : Nat := 0
def hd.tw1011335219593555734 : Nat := 0
def hd.tw11032806212648032379 : Nat := 0
def hd.tw3219085151875037572 : Nat := 0
def hd.tw6411954120941647267 : Nat := 0
def hd.tw13409441903868389331 : Nat := 0
def hd.tw1851346269716277005 : Nat := 0
def hd.tw9641152695372364146 : Nat := 0
def hd.tw16853341256802265648 : Nat := 0
def hd.tw14478148883734587675 : Nat := 0
def hd.tw2327210489368252092 : Nat := 0
def hd.tw18293732401869909652 : Nat := 0
def hd.tw17711083657039698284 : Nat := 0
def hd.tw7579377964693751086 : Nat := 0
def hd.tw16904818350239718627 : Nat := 0
def hd.tw15344866539931968096 : Nat := 0
def hd.tw13770079208771991547 : Nat := 0
def hd.tw9244321171653502345 : Nat := 0
def hd.tw8458067239894703972 : Nat := 0
def hd.tw2068664650715991707 : Nat := 0
def hd.tw7519716089354478335 : Nat := 0
def hd.tw16412773359747925120 : Nat := 0
def hd.tw18166333605607142505 : Nat := 0
def hd.tw10603584201595350602 : Nat := 0
def hd.tw4851647983119433812 : Nat := 0
def hd.tw10583446816852156582 : Nat := 0
def hd.tw13855946660403688772 : Nat := 0
def hd.tw6082411064634330575 : Nat := 0
def hd.tw10024716035694756283 : Nat := 0
def hd.tw9427301549700849589 : Nat := 0
def hd.tw15615537253650120727 : Nat := 0
def hd.tw7120233287515763914 : Nat := 0
def hd.tw5732804406350252772 : Nat := 0
def hd.tw15411387601460861337 : Nat := 0
def hd.tw6123773746684550334 : Nat := 0
def hd.tw10752148897807903841 : Nat := 0
def hd.tw17177331786930743035 : Nat := 0
def hd.tw17330945745186091897 : Nat := 0
def hd.tw11128854368766332075 : Nat := 0
def hd.tw4115565904173853331 : Nat := 0
def hd.tw16155205043701107222 : Nat := 0
def hd.tw8990313861142287110 : Nat := 0
def hd.tw6819123309680001836 : Nat := 0
def hd.tw4297731678662094536 : Nat := 0
def hd.tw6830512106363814048 : Nat := 0
def hd.tw4172343393113369950 : Nat := 0
def hd.tw1194904439430580092 : Nat := 0
def hd.tw15837987909243819085 : Nat := 0
def hd.tw13866372431405929976 : Nat := 0
def hd.tw17574625026820762457 : Nat := 0
def hd.tw11631869004601391166 : Nat := 0
def hd.tw18322514126500204803 : Nat := 0
def hd.tw17087091549796120035 : Nat := 0
def hd.tw12901994302517312135 : Nat := 0
def hd.tw7082855905992002993 : Nat := 0
def hd.tw12949589719889679912 : Nat := 0
def hd.tw15616948245753086127 : Nat := 0
def hd.tw15368132723985388332 : Nat := 0
def hd.tw3480954088277226078 : Nat := 0
def hd.tw16920754564084929960 : Nat := 0
def hd.tw13790719812936386609 : Nat := 0
def hd.tw5363564295841288755 : Nat := 0
def hd.tw17234923516513369237 : Nat := 0
def hd.tw5373601922739893978 : Nat := 0
def hd.tw17183224562656869120 : Nat := 0
def hd.tw14768889098011018680 : Nat := 0
def hd.tw8609351116199087170 : Nat := 0
def hd.tw8638756108113873008 : Nat := 0
def hd.tw11953376511379268794 : Nat := 0
def hd.tw10743916045514856203 : Nat := 0
def hd.tw15043168886218598503 : Nat := 0
def hd.tw13919464512627920130 : Nat := 0
def hd.tw15790720579355451973 : Nat := 0
def hd.tw395138700845864316 : Nat := 0
def hd.tw2391449824757734642 : Nat := 0
def hd.tw12936449754285732098 : Nat := 0
def hd.tw5174551420813472067 : Nat := 0
def hd.tw8268277133935991078 : Nat := 0
def hd.tw9748044761591592747 : Nat := 0
def hd.tw5366084841770067474 : Nat := 0
def hd.tw4377701919642642989 : Nat := 0
def hd.tw15042006015671813226 : Nat := 0
def hd.tw13483081372092288885 : Nat := 0
def hd.tw1241404454085649124 : Nat := 0
def hd.tw758273949599710562 : Nat := 0
def hd.tw5781342201191254626 : Nat := 0
def hd.tw18241275227582772068 : Nat := 0
def hd.tw17606422857730326317 : Nat := 0
def hd.tw15416985209724490359 : Nat := 0
def hd.tw17948085552500728524 : Nat := 0
def hd.tw16473244170626142550 : Nat := 0
def hd.tw11054480109507316185 : Nat := 0
def hd.tw10525666975642140466 : Nat := 0
def hd.tw5278057926702712004 : Nat := 0
def hd.tw3828038474966422129 : Nat := 0
def hd.tw17047115858639842297 : Nat := 0
def hd.tw10614716105012338702 : Nat := 0
def hd.tw16868993833207775613 : Nat := 0
def hd.tw9566141503761928105 : Nat := 0
def hd.tw1580110805410547442 : Nat := 0
def hd.tw16154546982801380032 : Nat := 0
def hd.tw15967140613478806237 : Nat := 0
def hd.tw7296583596125217682 : Nat := 0
def hd.tw432457690288141553 : Nat := 0
def hd.tw14294001040229213422 : Nat := 0
def hd.tw7654286748164834634 : Nat := 0
def hd.tw3953601041324332601 : Nat := 0
def hd.tw16828841361933241965 : Nat := 0
def hd.tw15643275761693703936 : Nat := 0
def hd.tw8457440626546761165 : Nat := 0
def hd.tw7752767780024739350 : Nat := 0
def hd.tw5978321128707920903 : Nat := 0
def hd.tw10678649693572172417 : Nat := 0
def hd.tw11917015161858427179 : Nat := 0
def hd.tw7270182246851987180 : Nat := 0
def hd.tw5416991563250132298 : Nat := 0
def hd.tw17919194246423945575 : Nat := 0
def hd.tw11210553801493137410 : Nat := 0
def hd.tw8516288146210602744 : Nat := 0
def hd.tw3309697970292668127 : Nat := 0
def hd.tw9702936160620672325 : Nat := 0
def hd.tw5292301768408028288 : Nat := 0
def hd.tw14598272352848978880 : Nat := 0
def hd.tw13466754112058979494 : Nat := 0
def hd.tw13893168526513508166 : Nat := 0
def hd.tw11709330566771433103 : Nat := 0
def hd.tw11319097763535126812 : Nat := 0
def hd.tw15527848837575444561 : Nat := 0
def hd.tw7914949630228597729 : Nat := 0
def hd.tw922143313871775805 : Nat := 0
def hd.tw4494801613693538912 : Nat := 0
def hd.tw11660266114150955751 : Nat := 0
def hd.tw7540741092611519060 : Nat := 0
def hd.tw9719896912496429819 : Nat := 0
def hd.tw10246146449241189800 : Nat := 0
def hd.tw8960069828448710407 : Nat := 0
def hd.tw461538923250603899 : Nat := 0
def hd.tw5148922909946612681 : Nat := 0
theorem beside {P R : Prop} (_ : P) (r : R) : R := r
theorem at_it {R P : Prop} {h : P → R} (w : P) : (⟨P, h⟩ : {P : Prop // P → R}).val := w
set_option Elab.async true in
set_option maxRecDepth 100000 in
set_option maxHeartbeats 8000000 in
theorem hd : True := by
  let rec it : {P : Prop // P → PySem.Challenge.rw_xm0639_01.Holds} := ⟨_, fun walk => by
    refine' beside ?hc ?main
    case' main => w_on; o_law; k_head; (case hw => w_witness2)
    exact walk⟩
  trivial
end Mine

-- Base
open PySem PySem.W PyProof.Rows PySem.Calls
set_option Elab.async false
namespace Mine
/-- the place of a call: a frame's env on top of its outer ones; room by written numbers -/
abbrev topAt (D U : Nat) (hn : Option Value) (env : Env) (outer : List Env) : Around := { handled := hn, depth := D, frames := some (env :: outer), guards := none, units := U }
theorem use {α : Type} {M : Model} {A : Around} {D U : Nat} {hn : Option Value} {env : Env} {outer : List Env} {t : Sem α} {Q : α → Shared → Prop} {E : Value → Shared → Prop} {s : Shared}
    (hf : A.frames = some (env :: outer)) (hh : A.handled = hn) (hd : A.depth ≤ D) (hu : A.units ≤ U) (h : wpAny M (topAt D U hn env outer) t Q E s) : wpAny M A t Q E s :=
  fun Γ p hΓ => h Γ p ⟨hΓ.1.trans hh, Nat.le_trans hΓ.2.1 hd, fun l hl => hΓ.2.2.1 l (hf.trans hl), (fun g hg => by cases hg), Nat.le_trans hΓ.2.2.2.2 hu⟩

theorem allLt_off {d : Addr} {l : List (Addr × Obj)} (h : AllLt d l) : ∀ p ∈ l, p.1 ≠ d := by
  induction l with
  | nil => intro p hp; cases hp
  | cons q r ih =>
    intro p hp
    rcases List.mem_cons.mp hp with e | hp
    · rw [e]; exact Nat.ne_of_lt h.1
    · exact ih h.2 p hp
theorem news_off {h₀ h : Heap} {L : Addr} {p : Addr × Obj} {news : List (Addr × Obj)} (N : News h₀ L h (p :: news)) : News h₀ L h news := fun q hq => N q (.tail _ hq)
theorem news_swap {h₀ h : Heap} {L : Addr} {p q : Addr × Obj} {news : List (Addr × Obj)} (N : News h₀ L h (p :: q :: news)) : News h₀ L h (q :: p :: news) := fun r hr => by
  rcases List.mem_cons.mp hr with rfl | hr
  · exact N _ (.tail _ (.head _))
  · rcases List.mem_cons.mp hr with rfl | hr
    · exact N _ (.head _)
    · exact N _ (.tail _ (.tail _ hr))

theorem news_3a {h₀ h : Heap} {L : Addr} {p q r : Addr × Obj} {news : List (Addr × Obj)} (N : News h₀ L h (p :: q :: r :: news)) : News h₀ L h (p :: news) := fun x hx => by
  rcases List.mem_cons.mp hx with e | hx
  · rw [e]; exact N _ (.head _)
  · exact N _ (.tail _ (.tail _ (.tail _ hx)))
theorem news_3b {h₀ h : Heap} {L : Addr} {p q r : Addr × Obj} {news : List (Addr × Obj)} (N : News h₀ L h (p :: q :: r :: news)) : News h₀ L h (q :: p :: news) := fun x hx => by
  rcases List.mem_cons.mp hx with e | hx
  · rw [e]; exact N _ (.tail _ (.head _))
  · rcases List.mem_cons.mp hx with e | hx
    · rw [e]; exact N _ (.head _)
    · exact N _ (.tail _ (.tail _ (.tail _ hx)))

section
variable {prog : Program} {w : World} {A : Around} {E : Value → Shared → Prop} {s : Shared} {a b : Int} {t u : Tok} {Q : Value → Shared → Prop}
theorem s_mod (hb : 0 < b) (h : Q (.int (a % b) s.toks) { s with toks := s.toks + 1 }) : wpAny (model prog w) A (binaryOp .Mod (.int a t) (.int b u)) Q E s := by
  refine mod_int' (by omega) ?_
  rw [Int.fmod_eq_emod_of_nonneg _ (by omega)]; exact h
theorem s_div (hb : 0 < b) (hb2 : b < 1073741824) (h : Q (.int (a / b) s.toks) { s with toks := s.toks + 1 }) : wpAny (model prog w) A (binaryOp .FloorDiv (.int a t) (.int b u)) Q E s := by
  refine floordiv_int (by omega) ?_ ?_
  · rw [Int.fdiv_eq_ediv_of_nonneg _ (by omega)]; exact h
  · exact Or.inl (PyProof.noPylong_small (by omega))
theorem s_mul (h0 : 0 ≤ a) (h1 : a < 9223372036854775808) (h : Q (.int (a * b) s.toks) { s with toks := s.toks + 1 }) : wpAny (model prog w) A (binaryOp .Mult (.int a t) (.int b u)) Q E s :=
  mul_int h (IntMulOk.of_left (intBits_le_64 (by omega) (by omega)))
end
section
variable {prog : Program} {w : World} {A : Around} {E : Value → Shared → Prop} {s : Shared} {h₀ : Heap} {L : Addr} {news : List (Addr × Obj)} {Q : Value → Shared → Prop}
theorem s_item {value slice : Expr} {l : Addr} {items : List Value} {n : Nat} {k : Int} {u : Tok} {v : Value} (N : News h₀ L s.heap news) (hm : (l, W.listOf items.toArray n) ∈ news) (h0 : 0 ≤ k) (hhi : k < 2 ^ 63) (hx : items[k.toNat]? = some v) (h : Q v s)
    (hs : subscripted slice false (.ref l) (.int k u) = operate [.ref l, .int k u] (getItem (.ref l) (.int k u)) := by with_unfolding_all rfl) :
    wpAny (model prog w) A (subscriptTail value slice (.ref l) (.int k u)) Q E s :=
  have hl : s.heap.IsList l items.toArray := ⟨_, N.get hm, rfl, n, rfl⟩
  tail_any hl.typeIs slot_list_getitem.lookup (wpAny_getItem_list hl h0 hhi (by simpa using hx) h) hs
end
end Mine

-- Exc1
open PySem PySem.W PyProof.Rows PySem.Calls
set_option Elab.async false
set_option maxRecDepth 100000
namespace Mine

/-- an exception of a class of the text's own, its dict not made yet, or made -/
abbrev excObj (C t : Addr) (d : Option Addr) : Obj := { cls := .ref C, dict := d, data := .fields #[.ref t, .none, .none, .none, .bool false, .none] }
abbrev tupObj (vs : List Value) : Obj := { cls := .type "tuple", data := .seq vs.toArray }
abbrev bmX : List Value := [.ref 115, .type "Exception", .type "BaseException", .type "object"]

section
variable {prog : Program} {w : World} {A : Around} {R : Result → Shared → Prop} {h : Heap} {g : Array GenState} {d : Drawn} {t : Nat} {os : OsState}
variable {nm q : Str} {C N : Addr} {bs : List Value} {hdct : Bool} {sn : List Str} {sub : List Value} {ab : Bool} {col : Option Bool} {dd : Option Addr} {k0 k1 k2 k3 k5 : Option Value}

theorem e_checkNew {M : Model} {E : Value → Shared → Prop} {rest : List Value} {Q : Unit → Shared → Prop} (hC : h.get? C = some (excClassObj nm q C N bs bmX hdct sn sub ab col dd k0 k1 k2 k3 k5 "Exception.__new__"))
    (hq : Q () ⟨h, g, d, t, os⟩) : wpAny M A (checkBuiltinCall "Exception.__new__" ⟨.ref C :: rest, []⟩) Q E ⟨h, g, d, t, os⟩ := by
  have Fn := PySem.F.excBase_Exception
  have hcont : (Value.ref C :: bmX).contains (.type "Exception") = true := by simp
  have hstar := Fn.noStar
  simp only [checkBuiltinCall, Fn.newKind, Fn.newSplit, Fn.newRow]
  repeat (first | refine wpAny_loadPart_at hC ?_ | (refine wpAny_isSubtype_exc hC ?_; rw [hcont]) | refine wpAny_staticBase_exc hC ?_ | refine wpAny_madeBy_exc hC ?_ | simp only [bne_self_eq_false, Bool.false_eq_true, if_false] | wp_step)
  exact hq

theorem e_new {rest : List Value} (hC : h.get? C = some (excClassObj nm q C N bs bmX hdct sn sub ab col dd k0 k1 k2 k3 k5 "Exception.__new__"))
    (hq : R (.ok (.ret (.ref (h.objs.size + 1)))) ⟨(h.push (tupObj rest)).push (excObj C h.objs.size none), g, d, t, os⟩) (hrest : rest.length ≤ sizeLine) :
    codeAny (model prog w) A (.builtin "Exception.__new__" ⟨.ref C :: rest, []⟩) R ⟨h, g, d, t, os⟩ := by
  have Fn := PySem.F.excBase_Exception
  have hends := Fn.ends
  have hcB : (Value.ref C :: bmX).contains (.type "Exception") = true := by simp
  have hcA : (Value.ref C :: bmX).contains (.type "AttributeError") = false := by simp
  have hcN : (Value.ref C :: bmX).contains (.type "NameError") = false := by simp
  refine codeAny_builtinAt Fn.entry ?_
  unfold Builtin.«BaseException.__new__»
  refine PySem.wpAt_bind ?_
  show PySem.wpAt _ _ _ (stack >>= _) _ _ _
  refine PySem.wpAt_bind (PySem.wpAt_stack fun p below => PySem.wpAt_of_wpAny ?_)
  wp_walk
  refine PySem.wpAt_of_wpAny ?_
  rw [Fn.owner]
  repeat (first | with_reducible refine wpAny_madeHere_exc Fn.canon hC ?_ | with_reducible refine wpAny_loadPart_at hC ?_ | (with_reducible refine wpAny_isSubtype_exc hC ?_; first | rw [hcB] | rw [hcA] | rw [hcN]) | wp_step)
  show R _ _
  rw [Heap.size_push]
  exact hq
end

section
variable {prog : Program} {w : World} {A : Around} {K : Frag} {C : Addr} {s : Shared} {h₀ : Heap} {L : Addr} {m : Str → Option Value} {news : List (Addr × Obj)} {R : Result → Shared → Prop}
variable {nm q : Str} {N : Addr} {bs : List Value} {hdct : Bool} {sn : List Str} {sub : List Value} {ab : Bool} {col : Option Bool} {dd : Option Addr} {k0 k1 k2 k3 k5 : Option Value}

/-- a call of an exception class of the text's own that has an __init__ of its own -/
theorem e_make {rest : List Value} {fI : Addr} (F : Fr h₀ L s.heap m) (N' : News h₀ L s.heap news) (X : K.In s.heap)
    (hK : K.lookup C = some (excClassObj nm q C N bs bmX hdct sn sub ab col dd k0 k1 k2 k3 k5 "Exception.__new__"))
    (hi : findIn K (.ref C) "__init__" = some (some (.ref fI))) (hf : typeIn K (.ref fI) = some (.type "function")) (hrest : rest.length ≤ sizeLine)
    (h : ∀ e t h', Fr h₀ L h' m → News h₀ L h' ((e, excObj C t none) :: (t, tupObj rest) :: news) → (∀ p ∈ news, p.1 < t) → t < e → (∀ p ∈ news, p.1 < e) →
      codeAny (model prog w) (A.under (.builtin "type.__call__" ⟨.ref C :: rest, []⟩)) (.call (.ref fI) ⟨.ref e :: rest, []⟩) (InitBack e R) { s with heap := h' }) :
    codeAny (model prog w) A (.call (.ref C) ⟨rest, []⟩) R s := by
  obtain ⟨hh, g, d, tk, os⟩ := s
  have hC : hh.get? C = some (excClassObj nm q C N bs bmX hdct sn sub ab col dd k0 k1 k2 k3 k5 "Exception.__new__") := X _ _ hK
  have f1 := tc_lookup
  have f2 := tc_bind (.ref C)
  have hT : (⟨hh, g, d, tk, os⟩ : Shared).TypeIs (.ref C) "type" := ⟨_, hC, rfl⟩
  refine codeAny_of_tree ?_
  show wpAny _ _ (callAny (.ref C) _) _ _ _
  repeat (any_goals (first | assumption | with_reducible refine wpAny_loadPart_at hC ?_ | wp_step))
  refine ⟨rfl, ?_⟩
  refine codeAny_call_builtin_at (Code.quiet_builtin _ (by decide +kernel)) entry_typeCall (wpAny_check_type_call_sub hC ?_)
  repeat (first | with_reducible refine wpAny_loadPart_at hC ?_ | with_reducible refine wpAny_madeBy_exc hC ?_ | wp_step)
  refine codeAny_call_builtin_code (Code.quiet_builtin _ PySem.F.excBase_Exception.quiet) (e_checkNew hC ?_)
  refine e_new hC ?_ hrest
  show wpAny _ _ _ _ _ _
  have F1 := (F.push (tupObj rest)).push (excObj C hh.objs.size none)
  have N1 := (N'.push F (tupObj rest)).push (F.push _) (excObj C hh.objs.size none)
  rw [Heap.size_push] at N1
  have X1 : K.In ((hh.push (tupObj rest)).push (excObj C hh.objs.size none)) := X.keeps fun b o e => Heap.get?_push_of_some _ (Heap.get?_push_of_some _ e)
  have hC₁ : ((hh.push (tupObj rest)).push (excObj C hh.objs.size none)).get? C = some (excClassObj nm q C N bs bmX hdct sn sub ab col dd k0 k1 k2 k3 k5 "Exception.__new__") := X1 _ _ hK
  have hget : ((hh.push (tupObj rest)).push (excObj C hh.objs.size none)).get? (hh.objs.size + 1) = some ({ cls := .ref C, dict := none, data := .fields #[.ref hh.objs.size, .none, .none, .none, .bool false, .none], slots := #[] } : Obj) := (N1 _ (.head _)).1
  have hcC : (Value.ref C :: bmX).contains (.ref C) = true := by simp
  have I : InstAt ((hh.push (tupObj rest)).push (excObj C hh.objs.size none)) (hh.objs.size + 1) (excObj C hh.objs.size none) C none := ⟨hget, rfl, rfl, trivial⟩
  unfold isInstance
  repeat (first | refine wpAny_loadPart_at hget ?_ | (refine wpAny_isSubtype_exc hC₁ ?_; rw [hcC]) | wp_step)
  refine (looks_findIn X1 hi).here ?_
  refine wpAny_holding (wpAny_bind ((bind_fn X1 _ hf).here ?_))
  refine wpAny_bind (wpAny_call (codeAny_mono (h _ _ _ F1 N1 (fun p hp => Heap.lt_size (N' p hp).1) (Nat.lt_succ_self _) (fun p hp => Nat.lt_succ_of_lt (Heap.lt_size (N' p hp).1))) fun r s' z => ?_))
  rcases r with e | (v | _ | _ | _) <;> first | exact z | exact z.elim | skip
  obtain ⟨rfl, z⟩ := z
  exact wpAny_pure (wpAny_pure z)
end
end Mine

-- Exc2
open PySem PySem.W PyProof.Rows PySem.Calls
set_option Elab.async false
set_option maxRecDepth 100000
namespace Mine
section
variable {prog : Program} {w : World} {A : Around} {K : Frag} {C : Addr} {s : Shared} {h₀ : Heap} {L : Addr} {m : Str → Option Value} {news : List (Addr × Obj)} {R : Result → Shared → Prop}
variable {nm q : Str} {N : Addr} {bs : List Value} {hdct : Bool} {sn : List Str} {sub : List Value} {ab : Bool} {col : Option Bool} {dd : Option Addr} {k0 k1 k2 k3 k5 : Option Value}

/-- Exception.__init__ upon such an exception, new -/
theorem e_init {e t : Addr} {rest : List Value} {Q : Value → Shared → Prop} {E : Value → Shared → Prop} (F : Fr h₀ L s.heap m) (N' : News h₀ L s.heap ((e, excObj C t none) :: news)) (hne : ∀ p ∈ news, p.1 ≠ e) (X : K.In s.heap)
    (hK : K.lookup C = some (excClassObj nm q C N bs bmX hdct sn sub ab col dd k0 k1 k2 k3 k5 "Exception.__new__")) (hrest : rest.length ≤ sizeLine)
    (h : ∀ t' h', Fr h₀ L h' m → News h₀ L h' ((t', tupObj rest) :: (e, excObj C t' none) :: news) → (∀ p ∈ news, p.1 < t') → e < t' → Q .none { s with heap := h' }) :
    wpAny (model prog w) A (call (.builtin "Exception.__init__") (.ref e :: rest)) Q E s := by
  have Fx := PySem.F.excBase_Exception
  obtain ⟨hh, g, d, tk, os⟩ := s
  have hC : hh.get? C = some (excClassObj nm q C N bs bmX hdct sn sub ab col dd k0 k1 k2 k3 k5 "Exception.__new__") := X _ _ hK
  have he : hh.get? e = some ({ cls := .ref C, dict := none, data := .fields #[.ref t, .none, .none, .none, .bool false, .none], slots := #[] } : Obj) := (N' _ (.head _)).1
  have hcB : (Value.ref C :: bmX).contains (.type "Exception") = true := by simp
  refine wpAny_call (codeAny_call_builtin Fx.init.plain Fx.initEntry ?_)
  have hshort := Fx.noStar
  simp only [checkBuiltinCall, Fx.initKind, Fx.initSplit, Fx.initRow]
  repeat (first | refine wpAny_loadPart_at he ?_ | (refine wpAny_isSubtype_exc hC ?_; rw [hcB]) | wp_step)
  refine wpAny_onRaise ?_
  rw [show ∀ (a b : String) (n : Nat), Bind.check ⟨.positional, "*", "Exception", .self, [⟨"args", .varPos, false⟩]⟩ a b n (List.map (fun x => x.fst) ({ pos := Value.ref e :: rest } : Args).kw) = pure () from
    fun a b n => check_star_args _ _ _ _ _ _]
  refine wpAny_pure ?_
  wp_walk
  have U := news_upd (pre := [(hh.objs.size, tupObj rest)]) (post := news) (d := e) (o := excObj C t none) (o' := excObj C hh.objs.size none) (f := Obj.mapFields fun x => x.setIfInBounds 0 (Value.ref hh.objs.size))
    (F.push (tupObj rest)) (N'.push F (tupObj rest)) (fun p hp => by rw [List.mem_singleton.mp hp]; exact Nat.ne_of_gt (Heap.lt_size he)) hne rfl rfl
  exact h _ _ U.1 U.2 (fun p hp => Heap.lt_size (N' p (.tail _ hp)).1) (Heap.lt_size he)

theorem e_osa_open {x : Addr} {ox : Obj} {od : Option Obj} {cd : ClassData} {name : Str} {tk : Tok} {v : Value} (X : K.In s.heap) (I : InstAt s.heap x ox C od) (hc : clsIn K C = some cd) (hm : mroIn K C (.type "object") = some true)
    (hr : refuseLoop (.ref x) "__setattr__" cd.mro = pure ()) (ht : takerIn K C name = some none)
    (h : ∀ b, wpAny (model prog w) A.in1 (PySem.Builtin.ObjectAttr.storeInOwnDict (.ref x) (.ref C) (.str name tk) name v b)
      (fun fin s' => match fin with | .done f => R (.ok f) s' | .again c' => c'.quiet = true ∧ codeAny (model prog w) A c' R s') (fun e s' => R (.error e) s') s) :
    codeAny (model prog w) A (.call (.builtin "object.__setattr__") ⟨[.ref x, .str name tk, v], []⟩) R s := by
  have SF := PySem.F.store_object
  have sub : Looks (model prog w) s.heap (isInstance (.ref x) (.type "object")) true := I.type.andThen (looks_mroIn X hm)
  refine codeAny_call_builtin SF.slot.plain SF.entry (@check_slot (model prog w) _ _ s "object.__setattr__" "object" "__setattr__" (.ref x) [.str name tk, v] [] _ SF.kind SF.split sub (SF.args (.ref x) (.str name tk) v) ?_)
  obtain ⟨attr, ha, hr'⟩ := Option.bind_eq_some_iff.mp ht
  have hm' : Looks (model prog w) s.heap (mroOf (.ref C)) cd.mro := (looks_clsIn X hc).andThen .now
  have L3 : Looks (model prog w) s.heap (PySem.Builtin.ObjectAttr.storeTaker? attr) none := by
    cases attr with
    | none => exact .now
    | some a =>
      obtain ⟨b, hb, e⟩ := Option.map_eq_some_iff.mp hr'
      refine (looks_takesIn X hb).andThen ?_
      cases b <;> first | exact .now | cases e
  rw [osa_eq, refuse_eq]
  refine wpAny_bind (wpAny_bind (I.type.here (wpAny_bind (hm'.here ?_))))
  rw [hr]
  exact wpAny_pure (wpAny_bind (I.type.here (wpAny_bind ((looks_findIn X ha).here (wpAny_bind (L3.here (h _)))))))

/-- the first store into such an exception: its dict is made -/
theorem e_osa_new {x : Addr} {ox : Obj} {cd : ClassData} {name : Str} {tk : Tok} {v : Value} (F : Fr h₀ L s.heap m) (N' : News h₀ L s.heap ((x, ox) :: news)) (hne : ∀ p ∈ news, p.1 ≠ x) (X : K.In s.heap)
    (hcl : ox.cls = .ref C) (hno : notCls ox = true) (hd : ox.dict = none) (hfr : ox.isFreed = false) (hc : clsIn K C = some cd) (hh : cd.hasDict = true) (hm : mroIn K C (.type "object") = some true)
    (hr : refuseLoop (.ref x) "__setattr__" cd.mro = pure ()) (ht : takerIn K C name = some none)
    (h : ∀ dx hs k h', Fr h₀ L h' m → News h₀ L h' ((x, { ox with dict := some dx }) :: (dx, dictOf [⟨hs, .str name k, v⟩] 1) :: news) → (∀ p ∈ news, p.1 < dx) → x < dx → R (.ok (.ret .none)) { s with heap := h', toks := s.toks + 1 }) :
    codeAny (model prog w) A (.call (.builtin "object.__setattr__") ⟨[.ref x, .str name tk, v], []⟩) R s := by
  have hx : s.heap.get? x = some ox := (N' _ (.head _)).1
  refine e_osa_open (od := none) X ⟨hx, hcl, hno, by rw [hd]; trivial⟩ hc hm hr ht fun b => ?_
  obtain ⟨oc, odi, oda, osl⟩ := ox
  dsimp only at hcl hd
  subst hcl hd
  refine wpAny_bind (wpAny_pure (wpAny_bind (wpAny_bind (wpAny_loadPart hx (wpAny_bind ((looks_clsIn X hc).here ?_))))))
  rw [hh]
  have hnc : ∀ c, oda ≠ .cls c := fun c q => by rw [q] at hno; cases hno
  show wpAny _ _ (match oda with | .cls _ => _ | _ => _) _ _ _
  have D0 : Fr h₀ L (s.heap.push emptyDict) m := F.push emptyDict
  have D1 := N'.push F emptyDict
  have hlt : x < s.heap.objs.size := Heap.lt_size hx
  have U := news_upd (pre := [(s.heap.objs.size, emptyDict)]) (post := news) (d := x) (o := ⟨.ref C, none, oda, osl⟩) (o' := ⟨.ref C, some s.heap.objs.size, oda, osl⟩) (f := fun o => { o with dict := some s.heap.objs.size })
    D0 D1 (fun p hp => by rw [List.mem_singleton.mp hp]; exact Nat.ne_of_gt hlt) hne rfl (by cases oda <;> first | rfl | cases hfr)
  split
  · rename_i c; exact absurd rfl (hnc c)
  refine wpAny_bind (wpAny_alloc' ?_)
  have hx1 : (s.heap.push emptyDict).get? x = some ⟨.ref C, none, oda, osl⟩ := Heap.get?_push_of_some _ hx
  refine wpAny_bind (wpAny_update' hx1 ?_)
  refine wpAny_pure ?_
  have V := news_upd (pre := []) (post := (x, ⟨.ref C, some s.heap.objs.size, oda, osl⟩) :: news) (d := s.heap.objs.size) (o := emptyDict) (o' := dictOf [⟨PyData.keyHash w.params name, .str name s.toks, v⟩] 1) (f := Obj.putName name (PyData.keyHash w.params name) (.str name s.toks) v)
    U.1 U.2 (fun p hp => nomatch hp) (fun p hp => by
      rcases List.mem_cons.mp hp with rfl | hp
      · exact Nat.ne_of_lt hlt
      · exact Nat.ne_of_lt (Heap.lt_size (N' p (.tail _ hp)).1)) (putName_dict ..) rfl
  refine wpAny_bind (wpAny_pure (wpAny_bind ?_))
  unfold nsSet
  refine wpAny_bind (wpAny_bind (wpAny_askSetting (wpAny_pure (wpAny_bind (wpAny_mkText (wpAny_bind (wpAny_loadPart (U.2 _ (.head _)).1 ?_)))))))
  dsimp only
  have D2 := (U.2 _ (.head _)).1
  dsimp only at D2
  have D3 := (V.2 _ (.head _)).1
  dsimp only at D3
  rw [aRefKeyMayBeTheName_at, show (!(#[] : Array DictEntry).any (·.key.isStr name) && (#[] : Array DictEntry).any (·.refKey)) = false from by simp]
  refine wpAny_updatePart D2 ?_
  refine wpAny_bind (wpAny_lookBehind D3 (pastItsLine_dict (by simp [sizeLine_eq])) ?_)
  refine wpAny_pure (h s.heap.objs.size (PyData.keyHash w.params name) s.toks _ V.1 (fun p hp => V.2 p ?_) (fun p hp => Heap.lt_size (N' p (.tail _ hp)).1) hlt)
  rcases List.mem_cons.mp hp with rfl | hp
  · exact .tail _ (.head _)
  · rcases List.mem_cons.mp hp with rfl | hp
    · exact .head _
    · exact .tail _ (.tail _ hp)

/-- a later store -/
theorem e_osa_old {x dx : Addr} {ox : Obj} {cd : ClassData} {name : Str} {tk : Tok} {v : Value} {es : List DictEntry} {n : Nat} (F : Fr h₀ L s.heap m) (N' : News h₀ L s.heap ((dx, dictOf es n) :: news)) (hx : s.heap.get? x = some ox) (hne : ∀ p ∈ news, p.1 ≠ dx) (X : K.In s.heap)
    (hcl : ox.cls = .ref C) (hno : notCls ox = true) (hd : ox.dict = some dx) (hc : clsIn K C = some cd) (hh : cd.hasDict = true) (hm : mroIn K C (.type "object") = some true)
    (hr : refuseLoop (.ref x) "__setattr__" cd.mro = pure ()) (ht : takerIn K C name = some none) (hrk : aRefKeyMayBeTheName name es.toArray = false) (hlen : (putL name (PyData.keyHash w.params name) (.str name s.toks) v es).length ≤ 1000)
    (h : ∀ h', Fr h₀ L h' m → News h₀ L h' ((dx, dictOf (putL name (PyData.keyHash w.params name) (.str name s.toks) v es) (putN name es n)) :: news) → R (.ok (.ret .none)) { s with heap := h', toks := s.toks + 1 }) :
    codeAny (model prog w) A (.call (.builtin "object.__setattr__") ⟨[.ref x, .str name tk, v], []⟩) R s := by
  refine e_osa_open (od := some (dictOf es n)) X ⟨hx, hcl, hno, by rw [hd]; exact (N' _ (.head _)).1⟩ hc hm hr ht fun b => ?_
  obtain ⟨oc, odi, oda, osl⟩ := ox
  dsimp only at hcl hd
  subst hcl hd
  refine wpAny_bind (wpAny_pure (wpAny_bind (wpAny_bind (wpAny_loadPart hx (wpAny_bind ((looks_clsIn X hc).here ?_))))))
  rw [hh]
  refine wpAny_pure (a := some dx) ?_
  have V := news_upd (pre := []) (post := news) (d := dx) (o := dictOf es n) (o' := dictOf (putL name (PyData.keyHash w.params name) (.str name s.toks) v es) (putN name es n)) (f := Obj.putName name (PyData.keyHash w.params name) (.str name s.toks) v)
    F N' (fun p hp => nomatch hp) hne (putName_dict ..) rfl
  refine wpAny_bind (wpAny_pure (wpAny_bind ?_))
  unfold nsSet
  refine wpAny_bind (wpAny_bind (wpAny_askSetting (wpAny_pure (wpAny_bind (wpAny_mkText (wpAny_bind (wpAny_loadPart (N' _ (.head _)).1 ?_)))))))
  dsimp only
  have D2 := (N' _ (.head _)).1
  dsimp only at D2
  have D3 := (V.2 _ (.head _)).1
  dsimp only at D3
  rw [hrk]
  refine wpAny_updatePart D2 ?_
  refine wpAny_bind (wpAny_lookBehind D3 (pastItsLine_dict (by simp only [List.size_toArray, sizeLine_eq]; omega)) ?_)
  exact wpAny_pure (h _ V.1 V.2)
end
end Mine

-- Exc3
open PySem PySem.W PyProof.Rows PySem.Calls
set_option Elab.async false
set_option maxRecDepth 100000
namespace Mine
section
variable {prog : Program} {w : World} {A : Around} {K : Frag} {C : Addr} {s : Shared} {h₀ : Heap} {L : Addr} {m : Str → Option Value} {news : List (Addr × Obj)} {E : Value → Shared → Prop}

theorem e_set_new {x : Addr} {ox : Obj} {cd : ClassData} {name : Str} {v : Value} {Q : Unit → Shared → Prop} (F : Fr h₀ L s.heap m) (N' : News h₀ L s.heap ((x, ox) :: news)) (hne : ∀ p ∈ news, p.1 ≠ x) (X : K.In s.heap)
    (hcl : ox.cls = .ref C) (hno : notCls ox = true) (hd : ox.dict = none) (hfr : ox.isFreed = false) (hc : clsIn K C = some cd) (hh : cd.hasDict = true) (hm : mroIn K C (.type "object") = some true)
    (hr : refuseLoop (.ref x) "__setattr__" cd.mro = pure ()) (ht : takerIn K C name = some none) (hs : findIn K (.ref C) "__setattr__" = some (some (.builtin "object.__setattr__")))
    (h : ∀ dx hs k h', Fr h₀ L h' m → News h₀ L h' ((x, { ox with dict := some dx }) :: (dx, dictOf [⟨hs, .str name k, v⟩] 1) :: news) → (∀ p ∈ news, p.1 < dx) → x < dx → Q () { s with heap := h', toks := s.toks + 2 }) :
    wpAny (model prog w) A (setAttr (.ref x) name v) Q E s :=
  set_plain X (od := none) ⟨(N' _ (.head _)).1, hcl, hno, by rw [hd]; trivial⟩ hs
    (e_osa_new (s := { s with toks := s.toks + 1 }) F N' hne X hcl hno hd hfr hc hh hm hr ht fun dx hs k h' F' N'' l1 l2 => h dx hs k h' F' N'' l1 l2)
theorem e_set_old {x dx : Addr} {ox : Obj} {cd : ClassData} {name : Str} {v : Value} {es : List DictEntry} {n : Nat} {Q : Unit → Shared → Prop} (F : Fr h₀ L s.heap m) (N' : News h₀ L s.heap ((dx, dictOf es n) :: news)) (hx : s.heap.get? x = some ox) (hne : ∀ p ∈ news, p.1 ≠ dx) (X : K.In s.heap)
    (hcl : ox.cls = .ref C) (hno : notCls ox = true) (hd : ox.dict = some dx) (hc : clsIn K C = some cd) (hh : cd.hasDict = true) (hm : mroIn K C (.type "object") = some true)
    (hr : refuseLoop (.ref x) "__setattr__" cd.mro = pure ()) (ht : takerIn K C name = some none) (hs : findIn K (.ref C) "__setattr__" = some (some (.builtin "object.__setattr__")))
    (hrk : aRefKeyMayBeTheName name es.toArray = false) {es' : List DictEntry} {n' : Nat} (e : (putL name (PyData.keyHash w.params name) (.str name (s.toks + 1)) v es, putN name es n) = (es', n')) (hlen : es'.length ≤ 900)
    (h : ∀ h', Fr h₀ L h' m → News h₀ L h' ((dx, dictOf es' n') :: news) → Q () { s with heap := h', toks := s.toks + 2 }) :
    wpAny (model prog w) A (setAttr (.ref x) name v) Q E s := by
  obtain ⟨e1, e2⟩ := Prod.mk.inj e
  exact set_plain X (od := some (dictOf es n)) ⟨hx, hcl, hno, by rw [hd]; exact (N' _ (.head _)).1⟩ hs
    (e_osa_old (s := { s with toks := s.toks + 1 }) F N' hx hne X hcl hno hd hc hh hm hr ht hrk (by rw [show ({ s with toks := s.toks + 1 } : Shared).toks = s.toks + 1 from rfl, e1]; omega) fun h' F' N'' => h h' F' (by rw [show ({ s with toks := s.toks + 1 } : Shared).toks = s.toks + 1 from rfl, e1, e2] at N''; exact N''))

theorem e_get {x : Addr} {ox : Obj} {od : Option Obj} {name : Str} {v : Value} {expr : Bool} {Q : Value → Shared → Prop} (X : K.In s.heap) (I : InstAt s.heap x ox C od)
    (hga : findIn K (.ref C) "__getattribute__" = some (some (.builtin "BaseException.__getattribute__"))) (hgg : findIn K (.ref C) "__getattr__" = some none) (hb : mroIn K C (.type "BaseException") = some true)
    (hf : findObj K C od name = some (.value v)) (hv : handedIn v = true) (h : Q v { s with toks := s.toks + 1 }) : wpAny (model prog w) A (getAttr (.ref x) name expr) Q E s := by
  obtain ⟨hp, g, d, t, os⟩ := s
  have FB := PySem.F.attrBase_Exception
  have f3 := FB.ga.bind (.ref x)
  have L0 := I.type (M := model prog w)
  have L1 := looks_findIn (M := model prog w) X hga
  have L2 := looks_findIn (M := model prog w) X hgg
  have hx0 : (expr && onTheHeap (Value.builtin "BaseException.__getattribute__")) = false := by cases expr <;> rfl
  have hx2 : (Value.builtin "BaseException.__getattribute__" == Value.builtin "object.__getattribute__") = false := by decide +kernel
  have hx1 : (onTheHeap (Value.ref C) && Value.builtin "BaseException.__getattribute__" == Value.builtin "object.__getattribute__") = false := by rw [hx2]; rfl
  unfold getAttr getAttrBy
  refine wpAny_bind (wpAny_mkText (wpAny_holding (wpAny_bind (L0.at (wpAny_bind (L1.at ?_))))))
  dsimp only
  rw [hx1]
  simp only [Bool.false_eq_true, if_false]
  unfold getAttrByItsOwn hookBefore
  refine wpAny_bind ?_
  rw [if_pos (show onTheHeap (Value.ref C) = true from rfl)]
  refine L2.at (wpAny_bind ?_)
  refine wpAny_attempt (wpAny_holding ?_)
  unfold callGetattribute boundAndCalled
  rw [hx0]
  simp only [Bool.false_eq_true, if_false]
  rw [f3]
  refine wpAny_bind (wpAny_pure (wpAny_call (codeAny_call_builtin FB.ga.plain PySem.F.entry_bexc_ga ?_)))
  have hk : builtinKind "BaseException.__getattribute__" = some .slot := by decide +kernel
  have hsplit : splitId "BaseException.__getattribute__" = some ("BaseException", "__getattribute__") := by decide +kernel
  refine @check_slot (model prog w) _ _ ⟨hp, g, d, t + 1, os⟩ "BaseException.__getattribute__" "BaseException" "__getattribute__" (.ref x) [.str name t] [] _ hk hsplit (I.type.andThen (looks_mroIn X hb)) (PySem.F.args_bexc_ga (.ref x) (.str name t)) ?_
  have LF := looks_find (M := model prog w) X I hf
  show wpAny _ _ (Builtin.«object.__getattribute__» ⟨[.ref x, .str name t], []⟩) _ _ _
  unfold Builtin.«object.__getattribute__»
  repeat lk
  show wpAny _ _ (handedOut v) _ _ _
  rw [handedOut_of hv]; exact wpAny_pure h
end
end Mine

-- Exc4
open PySem PySem.W PyProof.Rows PySem.Calls
set_option Elab.async false
set_option maxRecDepth 100000
namespace Mine
section
variable {prog : Program} {w : World} {A : Around} {E : Value → Shared → Prop} {env : Env} {C : Addr}
variable {nm q : Str} {N : Addr} {bs : List Value} {hdct : Bool} {sn : List Str} {sub : List Value} {ab : Bool} {col : Option Bool} {dd : Option Addr} {k0 k1 k2 k3 k5 : Option Value}

theorem e_raise0 {s : Shared} {x : Sem Value} {Q : Flow → Shared → Prop} (hh : A.handled = none)
    (h : wpAny (model prog w) A x (fun v s₁ => ∃ e t d, v = .ref e ∧ s₁.heap.get? C = some (excClassObj nm q C N bs bmX hdct sn sub ab col dd k0 k1 k2 k3 k5 "Exception.__new__") ∧
      s₁.heap.get? e = some (excObj C t d) ∧ E (.ref e) s₁) E s) :
    wpAny (model prog w) A (raiseStmt env (some x) none) Q E s := by
  have hcB : (Value.ref C :: bmX).contains (.type "BaseException") = true := by simp
  unfold raiseStmt
  refine wpAny_bind (wpAny_mono h (fun v s₁ h₁ => ?_) fun _ _ x => x)
  obtain ⟨e, t, d, rfl, hC, he, hE⟩ := h₁
  have he : s₁.heap.get? e = some ({ cls := .ref C, dict := d, data := .fields #[.ref t, .none, .none, .none, .bool false, .none], slots := #[] } : Obj) := he
  obtain ⟨hp, g, dr, tk, os⟩ := s₁
  repeat (first | refine wpAny_loadPart_at he ?_ | refine wpAny_loadPart_at hC ?_ | (refine wpAny_isSubtype_exc hC ?_; rw [hcB]) | wp_step)
  exact wpAny_raiseNew_none hh hE

theorem e_raise1 {s : Shared} {x : Sem Value} {Q : Flow → Shared → Prop} {e0 : Addr} (hh : A.handled = some (.ref e0))
    (h : wpAny (model prog w) A x (fun v s₁ => ∃ e t d o0 vs0, v = .ref e ∧ e ≠ e0 ∧ s₁.heap.get? C = some (excClassObj nm q C N bs bmX hdct sn sub ab col dd k0 k1 k2 k3 k5 "Exception.__new__") ∧
      s₁.heap.get? e = some (excObj C t d) ∧ s₁.heap.get? e0 = some o0 ∧ o0.data = .fields vs0 ∧ vs0[2]? = some .none ∧ E (.ref e) { s₁ with heap := s₁.heap.update e (Obj.mapFields (·.setIfInBounds 2 (.ref e0))) }) E s) :
    wpAny (model prog w) A (raiseStmt env (some x) none) Q E s := by
  have hcB : (Value.ref C :: bmX).contains (.type "BaseException") = true := by simp
  unfold raiseStmt
  refine wpAny_bind (wpAny_mono h (fun v s₁ h₁ => ?_) fun _ _ x => x)
  obtain ⟨e, t, d, o0, vs0, rfl, hne, hC, he, h0, hd0, hv0, hE⟩ := h₁
  have he : s₁.heap.get? e = some ({ cls := .ref C, dict := d, data := .fields #[.ref t, .none, .none, .none, .bool false, .none], slots := #[] } : Obj) := he
  obtain ⟨hp, g, dr, tk, os⟩ := s₁
  repeat (first | refine wpAny_loadPart_at he ?_ | refine wpAny_loadPart_at hC ?_ | (refine wpAny_isSubtype_exc hC ?_; rw [hcB]) | wp_step)
  unfold raiseNew
  refine wpAny_bind (wpAny_handled ?_)
  rw [hh]
  dsimp only
  rw [if_pos (show (Value.ref e0 != Value.ref e) = true from by simp [Ne.symm hne])]
  have hent : entryFor table "proto.unchain" = some Builtin.«proto.unchain» := entryFor_of_tree (by kernel_rfl)
  refine wpAny_bind (wpAny_holding (wpAny_runValue (codeAny_builtin hent ?_)))
  unfold Builtin.«proto.unchain»
  refine wpAny_bind (wpAny_field h0 hd0 hv0 ?_)
  rw [if_pos (show (Value.none == Value.none) = true from rfl)]
  refine wpAny_bind (wpAny_pure (wpAny_pure ?_))
  unfold updateField
  refine wpAny_bind (wpAny_bind (wpAny_load he ?_))
  dsimp only
  rw [if_pos (by simp)]
  refine wpAny_update he (wpAny_throw hE)
end
end Mine

-- Exc5
open PySem PySem.W PyProof.Rows PySem.Calls
set_option Elab.async false
set_option maxRecDepth 100000
namespace Mine

/-- an exception on its way: its class, its dict, its context; the traceback's mark -/
def TrD (h base : Heap) (e : Addr) (cls : Value) (d : Option Addr) (c2 fl : Value) : Prop :=
  ∃ oe vs T oT ts, h.get? e = some oe ∧ (oe.cls = cls ∧ oe.dict = d ∧ vs[2]? = some c2) ∧ oe.data = .fields vs ∧ vs[1]? = some (.ref T) ∧ base.get? T = none ∧ T ≠ e ∧ h.get? T = some oT ∧ oT.data = .fields ts ∧ ts[3]? = some fl

structure OnD (base : Heap) (l : List Env) (e : Addr) (cls : Value) (d : Option Addr) (c2 fl : Value) (h : Heap) : Prop where
  stays : base.StaysIn h
  new : base.get? e = none
  frames : h.FunFrames base l
  tr : TrD h base e cls d c2 fl

/-- a record of which one field was set: what is there now, and what stands as it stood -/
structure SetAt (h h' : Heap) (a : Addr) (o o' : Obj) (us : Array Value) : Prop where
  here : h'.get? a = some o'
  data : o'.data = .fields us
  cls : o'.cls = o.cls
  dict : o'.dict = o.dict
  off : ∀ b x, b ≠ a → h.get? b = some x → h'.get? b = some x
  plain : ∀ b x, h.get? b = some x → (∀ vs, x.data ≠ .fields vs) → h'.get? b = some x

section
variable {base h h' : Heap} {a : Addr} {o o' : Obj} {vs us : Array Value} {l : List Env}

theorem SetAt.of (i : Nat) (v : Value) (ha : h.get? a = some o) (hd : o.data = .fields vs) :
    ∃ o', SetAt h (h.update a (Obj.mapFields (·.setIfInBounds i v))) a o o' (vs.setIfInBounds i v) := by
  have off : ∀ b x, b ≠ a → h.get? b = some x → (h.update a (Obj.mapFields (·.setIfInBounds i v))).get? b = some x :=
    fun b x ne hb => (Heap.get?_update_other h _ (Ne.symm ne)).trans hb
  have dat := Obj.data_mapFields hd (·.setIfInBounds i v)
  refine ⟨_, Heap.get?_update_self _ ha (Obj.isFreed_of_fields dat), dat, Obj.cls_mapFields _ _, ?_, off, fun b x hb nx => off b x ?_ hb⟩
  · rcases o with ⟨_, _, dt, _⟩
    cases dt <;> first | rfl | cases hd
  · rintro rfl
    exact nx vs (Option.some.inj (ha.symm.trans hb) ▸ hd)
theorem SetAt.stays (S : SetAt h h' a o o' us) (K : base.StaysIn h) (new : base.get? a = none) : base.StaysIn h' := fun b x e =>
  S.off b x (fun q => Option.some_ne_none x (e.symm.trans (q ▸ new))) (K b x e)
theorem SetAt.frames (S : SetAt h h' a o o' us) (hl : h.FunFrames base l) : h'.FunFrames base l := hl.of_keeps fun b x e nx => ⟨x, S.plain b x e nx, rfl⟩
theorem SetAt.slots (S : SetAt h h' a o o' us) : h.UpToSlots h' := fun b x e nx => ⟨x.slots, S.plain b x e nx⟩
end

section
variable {M : Model} {A : Around} {E : Value → Shared → Prop} {s : Shared} {base : Heap} {env : Env} {outer : List Env} {L e : Addr} {cls c2 fl : Value} {d : Option Addr} {Q : Unit → Shared → Prop}

/-- a row of the traceback is laid, and the exception points at it -/
theorem d_entry {oe : Obj} {vs : Array Value} {head : Value} {hadNext : Bool}
    (hfr : A.frames = some (env :: outer)) (hl : s.heap.FunFrames base (env :: outer)) (hf : env.frame = some L)
    (he : s.heap.get? e = some oe) (hkb : base.StaysIn s.heap) (hen : base.get? e = none) (hd : oe.data = .fields vs) (hsz : 1 < vs.size) (h2 : vs[2]? = some c2)
    (h : ∀ h', OnD base (env :: outer) e oe.cls oe.dict c2 (rawInt L) h' → s.heap.UpToSlots h' → Q () { s with heap := h' }) :
    wpAny M A (do let a ← frameOf env; let pl ← entryPlaceOf L hadNext; let b ← EntryCells.newEntry head a .none (rawInt L) .none pl; setField (.ref e) 1 b) Q E s := by
  refine wpAny_bind (wpAny_frameOf_fun hfr hl hf fun g W => wpAny_bind (wpAny_entryPlaceOf fun pl hpl => ?_))
  simp only [EntryCells.newEntry, newFields]
  refine wpAny_bind (wpAny_newObj_type ?_ (hpl.sizeOk5 _ _ _ _ _))
  have mark : ([head, .ref L, .none, rawInt L, .none] ++ (if pl.isEmpty then List.replicate 6 Value.none else pl)).toArray[3]? = some (rawInt L) := by
    rcases hpl with rfl | ⟨_, _, _, _, _, _, _, rfl⟩ <;> simp
  generalize ([head, .ref L, .none, rawInt L, .none] ++ (if pl.isEmpty then List.replicate 6 Value.none else pl)).toArray = row at mark ⊢
  have ge : g.get? e = some oe := (W.2.1 e fun hm => by
    obtain ⟨_, x, hx, nx⟩ := hl.mem hm
    exact nx vs (Option.some.inj (he.symm.trans hx) ▸ hd)).trans he
  have gb : base.StaysIn g := fun b x hb => (W.2.1 b fun hm => Option.some_ne_none x (hb.symm.trans (hl.mem hm).1)).trans (hkb b x hb)
  have ne : g.objs.size ≠ e := Nat.ne_of_gt (Heap.lt_size ge)
  obtain ⟨oe', S⟩ := SetAt.of 1 (Value.ref g.objs.size) (Heap.get?_push_of_some { cls := .type "traceback", dict := none, data := .fields row } ge) hd
  have up : ∀ b x, s.heap.get? b = some x → (∀ us, x.data ≠ .fields us) → ∃ sl, Heap.get? (Heap.update (g.push { cls := .type "traceback", dict := none, data := .fields row }) e (Obj.mapFields (·.setIfInBounds 1 (Value.ref g.objs.size)))) b = some { x with slots := sl } := fun b x hb nx => by
    obtain ⟨sl, hs⟩ := W.2.2 b x hb
    exact ⟨sl, S.plain b _ (Heap.get?_push_of_some _ hs) nx⟩
  refine wpAny_setField (Heap.get?_push_of_some _ ge) hd hsz (h _ ⟨S.stays (fun b x hb => Heap.get?_push_of_some _ (gb b x hb)) hen, hen, hl.of_keeps fun b x hb nx => ?_, ?_⟩ up)
  · obtain ⟨sl, hs⟩ := up b x hb nx
    exact ⟨_, hs, rfl⟩
  · exact ⟨oe', _, g.objs.size, _, row, S.here, ⟨S.cls, S.dict, by rw [Array.getElem?_setIfInBounds_ne (by decide)]; exact h2⟩, S.data, by simp [hsz], gb.fresh, ne,
      S.off _ _ ne (Heap.get?_push_size g rfl), rfl, mark⟩

theorem ref_there (T : Addr) : (Value.ref T != Value.none) = true := by simp

/-- the traceback's mark, anew -/
theorem d_flight {fr : Option Addr} (o : OnD base (env :: outer) e cls d c2 fl s.heap)
    (h : ∀ h', OnD base (env :: outer) e cls d c2 (fr.elim .none fun f => rawInt f) h' → s.heap.UpToSlots h' → Q () { s with heap := h' }) :
    wpAny M A (setFlight (.ref e) fr) Q E s := by
  obtain ⟨st, nw, fm, oe, vs, T, oT, ts, he, own, hd, h1, nT, ne, hT, dT, h3⟩ := o
  obtain ⟨oT', S⟩ := SetAt.of 3 (fr.elim Value.none fun f => rawInt f) hT dT
  have sz := (Array.getElem?_eq_some_iff.mp h3).1
  have o' : OnD base (env :: outer) e cls d c2 (fr.elim .none fun f => rawInt f) (s.heap.update T (Obj.mapFields (·.setIfInBounds 3 (fr.elim Value.none fun f => rawInt f)))) :=
    ⟨S.stays st nT, nw, S.frames fm, oe, vs, T, oT', _, S.off _ _ (Ne.symm ne) he, own, hd, h1, nT, ne, S.here, S.data, by simp [sz]⟩
  simp only [setFlight]
  exact wpAny_bind (wpAny_field he hd h1 (by rw [if_pos (ref_there T)]; exact wpAny_setField hT dT sz (h _ o' S.slots)))

/-- the frame is noted: an exception that came from below -/
theorem d_note (hfr : A.frames = some (env :: outer)) (hf : env.frame = some L) (o : OnD base (env :: outer) e cls d c2 .none s.heap)
    (h : ∀ h', OnD base (env :: outer) e cls d c2 (rawInt L) h' → s.heap.UpToSlots h' → Q () { s with heap := h' }) : wpAny M A (noteFrame (.ref e) env) Q E s := by
  obtain ⟨st, nw, fm, oe, vs, T, oT, ts, he, ⟨rfl, rfl, h2⟩, hd, h1, nT, ne, hT, dT, h3⟩ := o
  obtain ⟨oT', S⟩ := SetAt.of 3 Value.none hT dT
  have lay := fun (head : Value) (hadNext : Bool) => d_entry (M := M) (E := E) (s := { s with heap := s.heap.update T (Obj.mapFields (·.setIfInBounds 3 Value.none)) }) (head := head) (hadNext := hadNext) hfr (S.frames fm) hf (S.off _ _ (Ne.symm ne) he) (S.stays st nT) nw hd (Array.getElem?_eq_some_iff.mp h1).1 h2
    fun h' o' u => h h' o' (S.slots.trans u)
  simp only [noteFrame, hf]
  refine wpAny_bind (wpAny_field he hd h1 ?_)
  rw [if_pos (ref_there T)]
  refine wpAny_bind (wpAny_field hT dT h3 ?_)
  rw [if_neg (by simp [rawInt])]
  exact wpAny_bind (wpAny_setField hT dT (Array.getElem?_eq_some_iff.mp h3).1 (lay _ _))

/-- noted already -/
theorem d_noteAgain (hf : env.frame = some L) (o : OnD base (env :: outer) e cls d c2 (rawInt L) s.heap) (h : Q () s) : wpAny M A (noteFrame (.ref e) env) Q E s := by
  obtain ⟨_, _, _, oe, vs, T, oT, ts, he, _, hd, h1, _, _, hT, dT, h3⟩ := o
  simp only [noteFrame, hf]
  exact wpAny_bind (wpAny_field he hd h1 (by
    rw [if_pos (ref_there T)]
    exact wpAny_bind (wpAny_field hT dT h3 (by rw [if_pos (by simp)]; exact wpAny_pure h))))

/-- the first frame that it leaves -/
theorem d_noteNew {oe : Obj} {vs : Array Value} (hfr : A.frames = some (env :: outer)) (hl : s.heap.FunFrames base (env :: outer)) (hf : env.frame = some L)
    (he : s.heap.get? e = some oe) (hkb : base.StaysIn s.heap) (hen : base.get? e = none) (hd : oe.data = .fields vs) (h1 : vs[1]? = some .none) (h2 : vs[2]? = some c2)
    (h : ∀ h', OnD base (env :: outer) e oe.cls oe.dict c2 (rawInt L) h' → s.heap.UpToSlots h' → Q () { s with heap := h' }) : wpAny M A (noteFrame (.ref e) env) Q E s := by
  unfold noteFrame
  simp only [hf]
  refine wpAny_bind (wpAny_field he hd h1 ?_)
  rw [if_neg (by decide)]
  exact d_entry hfr hl hf he hkb hen hd (Array.getElem?_eq_some_iff.mp h1).1 h2 h

theorem OnD.off {h : Heap} (o : OnD base (env :: outer) e cls d c2 fl h) : OnD base outer e cls d c2 fl h := ⟨o.stays, o.new, o.frames.2.2, o.tr⟩

theorem d_leave (hfr : A.frames = some (env :: outer)) (hf : env.frame = some L) (o : OnD base (env :: outer) e cls d c2 .none s.heap)
    (h : ∀ h', OnD base outer e cls d c2 .none h' → s.heap.UpToSlots h' → Q () { s with heap := h' }) : wpAny M A (leaving env (.ref e)) Q E s := by
  unfold leaving
  refine wpAny_bind (d_note hfr hf o fun h₁ o₁ u₁ => d_flight (fr := none) o₁ fun h₂ o₂ u₂ => h h₂ o₂.off (u₁.trans u₂))
theorem d_leaveHeld (hf : env.frame = some L) (o : OnD base (env :: outer) e cls d c2 (rawInt L) s.heap)
    (h : ∀ h', OnD base outer e cls d c2 .none h' → s.heap.UpToSlots h' → Q () { s with heap := h' }) : wpAny M A (leaving env (.ref e)) Q E s := by
  unfold leaving
  exact wpAny_bind (d_noteAgain hf o (d_flight (fr := none) o fun h₂ o₂ u₂ => h h₂ o₂.off u₂))
theorem d_leaveNew {oe : Obj} {vs : Array Value} (hfr : A.frames = some (env :: outer)) (hl : s.heap.FunFrames base (env :: outer)) (hf : env.frame = some L)
    (he : s.heap.get? e = some oe) (hkb : base.StaysIn s.heap) (hen : base.get? e = none) (hd : oe.data = .fields vs) (h1 : vs[1]? = some .none) (h2 : vs[2]? = some c2)
    (h : ∀ h', OnD base outer e oe.cls oe.dict c2 .none h' → s.heap.UpToSlots h' → Q () { s with heap := h' }) : wpAny M A (leaving env (.ref e)) Q E s := by
  unfold leaving
  refine wpAny_bind (d_noteNew hfr hl hf he hkb hen hd h1 h2 fun h₁ o₁ u₁ => d_flight (fr := none) o₁ fun h₂ o₂ u₂ => h h₂ o₂.off (u₁.trans u₂))
end
end Mine

-- Exc6
open PySem PySem.W PyProof.Rows PySem.Calls
set_option Elab.async false
set_option maxRecDepth 100000
namespace Mine

/-- an exception that has left the frames above l; G is the heap that the frame which it left stood upon -/
def RaisedD (base G : Heap) (l : List Env) (e : Addr) (cls : Value) (d : Option Addr) (c2 fl : Value) (news : List (Addr × Obj)) (h : Heap) : Prop :=
  ∃ B, base.StaysIn B ∧ (∀ b o, G.get? b = some o → b ∉ l.filterMap (·.frame) → B.get? b = some o) ∧ (∀ q ∈ news, B.get? q.1 = some q.2 ∧ G.get? q.1 = none ∧ base.get? q.1 = none) ∧ OnD B l e cls d c2 fl h

section
variable {A A₀ : Around} {base g g₂ h G : Heap} {env : Env} {outer : List Env} {L e : Addr} {m : Str → Option Value} {news : List (Addr × Obj)} {cls c2 fl : Value} {d : Option Addr}

theorem base_none (K : Below A base outer g) (F : Fr g L h m) : base.get? L = none := by
  cases hq : base.get? L with
  | none => rfl
  | some o => exact absurd (Nat.lt_of_lt_of_le (Heap.lt_size (K.stays L o hq)) F.above) (Nat.lt_irrefl _)
theorem below_push (K : Below A base outer g) (F : Fr g L h m) (hf : env.frame = some L) (hk : env.scope.kind = .function) : Below (A.deeper env) base (env :: outer) h := by
  refine ⟨Around.frames_deeper K.stack, fun b o e => F.keep b o (K.stays b o e), ?_⟩
  exact .cons (by rw [hk]; decide) hf F.ns (base_none K F) (K.frames.of_keeps fun b o e _ => ⟨o, F.keep b o e, rfl⟩)

theorem mem_frames {b : Addr} (hf : env.frame = some L) (hm : b ∈ (env :: outer).filterMap (·.frame)) : b = L ∨ b ∈ outer.filterMap (·.frame) := by
  obtain ⟨env', he, hf'⟩ := List.mem_filterMap.mp hm
  rcases List.mem_cons.mp he with rfl | he
  · exact .inl (Option.some.inj (hf'.symm.trans hf))
  · exact .inr (List.mem_filterMap.mpr ⟨env', he, hf'⟩)

/-- the base of an exception that stands on the ledger: all but the frames and itself -/
theorem raisedD_base {s' : Shared} {oe : Obj} (K : Below A base outer g) (F : Fr g L s'.heap m) (N : News g L s'.heap ((e, oe) :: news)) (hf : env.frame = some L) (hk : env.scope.kind = .function) (hne : ∀ p ∈ news, p.1 ≠ e) :
    ∃ B, base.StaysIn B ∧ B.StaysIn s'.heap ∧ B.get? e = none ∧ s'.heap.FunFrames B (env :: outer) ∧ (∀ b o, g.get? b = some o → b ∉ outer.filterMap (·.frame) → B.get? b = some o) ∧
      (∀ q ∈ news, B.get? q.1 = some q.2 ∧ g.get? q.1 = none ∧ base.get? q.1 = none) := by
  have K' := below_push (env := env) K F hf hk
  have ge : g.get? e = none := (N _ (.head _)).2.2
  have off : ∀ b o, g.get? b = some o → b ∉ outer.filterMap (·.frame) → b ∉ e :: (env :: outer).filterMap (·.frame) := fun b o q nm hm => by
    rcases List.mem_cons.mp hm with rfl | hm
    · rw [ge] at q; cases q
    · rcases mem_frames hf hm with z | z
      · rw [z, kts_self F] at q; cases q
      · exact nm z
  refine ⟨hideAll s'.heap (e :: (env :: outer).filterMap (·.frame)), fun b o q => ?_, fun b o q => of_hideAll _ q, hideAll_none _ (.head _), funFrames_hide K'.frames fun env' he' b hb => .tail _ (List.mem_filterMap.mpr ⟨env', he', hb⟩), fun b o q nm => hideAll_get _ (F.keep b o q) (off b o q nm), fun q hq => ⟨hideAll_get _ (N q (.tail _ hq)).1 fun hm => ?_, (N q (.tail _ hq)).2.2, fresh_of_stays K.stays (N q (.tail _ hq)).2.2⟩⟩
  · have q' := K.stays b o q
    refine hideAll_get _ (F.keep b o q') (off b o q' fun hm => ?_)
    rw [(K.frames.mem hm).1] at q; cases q
  · rcases List.mem_cons.mp hm with z | hm
    · exact hne q hq z
    · rcases mem_frames hf hm with z | z
      · exact (N q (.tail _ hq)).2.1 z
      · obtain ⟨o, ho, _⟩ := (K.frames.mem z).2
        rw [(N q (.tail _ hq)).2.2] at ho; cases ho
end

section
variable {M : Model} {A : Around} {E : Value → Shared → Prop} {s' : Shared} {base g g₂ : Heap} {env : Env} {outer : List Env} {L e : Addr} {m : Str → Option Value} {news : List (Addr × Obj)} {cls c2 fl : Value} {d : Option Addr} {Q : Unit → Shared → Prop}

/-- it leaves the frame in which it was raised -/
theorem leave_raiseD {oe : Obj} {vs : Array Value} (K : Below A base outer g) (F : Fr g L s'.heap m) (N : News g L s'.heap ((e, oe) :: news)) (hne : ∀ p ∈ news, p.1 ≠ e) (hd : oe.data = .fields vs) (h1 : vs[1]? = some .none) (h2 : vs[2]? = some c2)
    (hQ : ∀ h', RaisedD base g outer e oe.cls oe.dict c2 .none news h' → g.UpToSlots h' → Q () { s' with heap := h' }) (hf : env.frame = some L) (hk : env.scope.kind = .function) :
    wpAny M (A.deeper env) (leaving env (.ref e)) Q E s' := by
  obtain ⟨B, b1, b2, b3, b4, b5, b6⟩ := raisedD_base (env := env) K F N hf hk hne
  exact d_leaveNew (below_push K F hf hk).stack b4 hf (N _ (.head _)).1 b2 b3 hd h1 h2 fun h' o u => hQ h' ⟨B, b1, b5, b6, o⟩ ((Heap.UpToSlots.of_keeps F.keep).trans u)

theorem raisedD_on {h : Heap} {fl : Value} (F : Fr g L g₂ m) (hf : env.frame = some L) {B : Heap} (hB : base.StaysIn B) (hBG : ∀ b o, g₂.get? b = some o → b ∉ (env :: outer).filterMap (·.frame) → B.get? b = some o) (hN : ∀ q ∈ news, B.get? q.1 = some q.2 ∧ g₂.get? q.1 = none ∧ base.get? q.1 = none)
    (o : OnD B outer e cls d c2 fl h) : RaisedD base g outer e cls d c2 fl news h :=
  ⟨B, hB, fun b x q nm => hBG b x (F.keep b x q) fun hm => by
    rcases mem_frames hf hm with z | z
    · rw [z, kts_self F] at q; cases q
    · exact nm z, fun q hq => ⟨(hN q hq).1, kts_none F.keep (hN q hq).2.1, (hN q hq).2.2⟩, o⟩

/-- it flies on through a frame -/
theorem leave_onD (K : Below A base outer g) (F : Fr g L g₂ m) (R : RaisedD base g₂ (env :: outer) e cls d c2 .none news s'.heap) (hsm : g₂.UpToSlots s'.heap)
    (hQ : ∀ h', RaisedD base g outer e cls d c2 .none news h' → g.UpToSlots h' → Q () { s' with heap := h' }) (hf : env.frame = some L) :
    wpAny M (A.deeper env) (leaving env (.ref e)) Q E s' := by
  obtain ⟨B, hB, hBG, hN, hO⟩ := R
  exact d_leave (Around.frames_deeper K.stack) hf hO fun h' o u => hQ h' (raisedD_on F hf hB hBG hN o) ((Heap.UpToSlots.of_keeps F.keep).trans (hsm.trans u))
end

section
variable {A₀ : Around} {base g G B h₅ : Heap} {env : Env} {outer : List Env} {L e : Addr} {m : Str → Option Value} {news : List (Addr × Obj)} {cls c2 fl : Value} {d : Option Addr}
/-- what stands behind a landing: the ground, its frames' slots turned -/
theorem d_ground (K : Below A₀ base outer g) (F : Fr g L G m) (hf : env.frame = some L) (hBG : ∀ b o, G.get? b = some o → b ∉ (env :: outer).filterMap (·.frame) → B.get? b = some o) (hN : ∀ q ∈ news, B.get? q.1 = some q.2 ∧ G.get? q.1 = none ∧ base.get? q.1 = none)
    (o : OnD B (env :: outer) e cls d c2 fl h₅) (hsm : G.UpToSlots h₅) :
    ∃ g' oe vs, KtsTurn (outer.filterMap (·.frame)) g g' ∧ Fr g' L h₅ m ∧ Below A₀ base outer g' ∧ News g' L h₅ ((e, oe) :: news) ∧ oe.cls = cls ∧ oe.dict = d ∧ oe.data = .fields vs ∧ vs[2]? = some c2 := by
  have sub : ∀ b, b ∈ (env :: outer).filterMap (·.frame) → b ∈ ((envOf "" { kind := .function, names := [], isGenerator := false, isCoroutine := false } L 0 .none) :: outer).filterMap (·.frame) := fun b hb => by
    rcases mem_frames hf hb with z | z
    · subst z; exact .head _
    · exact .tail _ z
  obtain ⟨g', T, F', K'⟩ := kts_ground (name := "") (scope := { kind := .function, names := [], isGenerator := false, isCoroutine := false }) (a := 0) (cd := .none) K F (fun b x q nm => hBG b x q fun z => nm (sub b z)) o.stays hsm
  obtain ⟨oe, vs, _, _, _, he, ⟨hc, hdi, h2⟩, hd, _⟩ := o.tr
  have hL : B.get? L = none := by
    obtain ⟨_, ⟨L', _, hf', hn', _⟩, _⟩ := o.frames
    obtain rfl : L = L' := Option.some.inj (hf.symm.trans hf')
    exact hn'
  have ne : g'.get? e = none := T.none_ _ (by
    cases q : g.get? e with
    | none => rfl
    | some x =>
      by_cases hm : e ∈ outer.filterMap (·.frame)
      · obtain ⟨_, o', ho', hnf⟩ := K.frames.mem hm
        obtain ⟨sl, hs⟩ := hsm _ _ (F.keep _ _ ho') hnf
        rw [he] at hs
        cases hs
        exact absurd hd (hnf _)
      · have := hBG _ _ (F.keep _ _ q) fun hm' => by
          rcases mem_frames hf hm' with z | z
          · rw [z, kts_self F] at q; cases q
          · exact hm z
        rw [o.new] at this
        cases this)
  refine ⟨g', oe, vs, T, F', K', fun q hq => ?_, hc, hdi, hd, h2⟩
  rcases List.mem_cons.mp hq with rfl | hq
  · refine ⟨he, fun z => ?_, ne⟩
    obtain ⟨x, es, ep, hx, hxd, _⟩ := F'.ns
    dsimp only at z
    subst z
    rw [he] at hx
    cases hx
    rw [hd] at hxd
    cases hxd
  · exact ⟨o.stays _ _ (hN q hq).1, (fun z => by have := (hN q hq).1; rw [z, hL] at this; cases this), T.none_ _ (kts_none F.keep (hN q hq).2.1)⟩
end
end Mine

-- Exc7
open PySem PySem.W PyProof.Rows PySem.Calls
set_option Elab.async false
set_option maxRecDepth 100000
namespace Mine
section
variable {prog : Program} {w : World} {A₀ : Around} {E : Value → Shared → Prop} {s' : Shared} {base g G : Heap} {outer : List Env} {L a e C : Addr} {m : Str → Option Value} {name : Str} {scope : Scope} {cd : Value}
  {n : Str} {b₀ : Stmt} {suite : List Stmt} {pos np : Pos} {rest : List ExceptHandler} {Q : Flow → Shared → Prop} {news : List (Addr × Obj)} {KF : Frag}
  {p : Program} {loose : List Str} {mean : ExcName → Option Value} {mg mb : Str → Option Value} {x : Str} {d : Option Addr} {c2 : Value}

/-- except X: -/
theorem caught_D0 (R : RaisedD base G (envOf name scope L a cd :: outer) e (.ref C) d c2 .none news s'.heap) (F : Fr g L G m) (K : Below A₀ base outer g) (hsm : G.UpToSlots s'.heap) (XB : KF.In base) (TB : Top p loose mean mg mb base)
    (ex : nsIn KF mainGlobals x = some (some (.ref C))) (q : ktsIn KF C "BaseException" = true)
    (k : ∀ h' g' oe vs, KtsTurn (outer.filterMap (·.frame)) g g' → Fr g' L h' m → News g' L h' ((e, oe) :: news) → oe.cls = .ref C → oe.dict = d → oe.data = .fields vs → vs[2]? = some c2 → Below A₀ base outer g' → KF.In g' → Top p loose mean mg mb g' →
      wpAny (model prog w) ((A₀.deeper (envOf name scope L a cd)).mark (some (.ref e))) (execs (b₀ :: suite) (envOf name scope L a cd)) Q E { s' with heap := h' })
    (hk : scope.kind = .function := by rfl) (hx : (envOf name scope L a cd).kindOf x = some .globalImplicit := by rfl) (hd : (x == ("__debug__" : Str)) = false := by decide)
    (hE : PassesOwnAt (model prog w) ((A₀.deeper (envOf name scope L a cd)).mark (some (.ref e))) (A₀.deeper (envOf name scope L a cd)) (envOf name scope L a cd) E := by passes_own) :
    wpAny (model prog w) (A₀.deeper (envOf name scope L a cd)) (noteFrame (.ref e) (envOf name scope L a cd))
      (fun _ s₂ => wpAny (model prog w) (A₀.deeper (envOf name scope L a cd)) (setFlight (.ref e) none) (fun _ s₃ =>
        wpAny (model prog w) (A₀.deeper (envOf name scope L a cd)) (handleBy (.ref e) (envOf name scope L a cd) (.ExceptHandler (some (.Name x np)) none (b₀ :: suite) pos :: rest)) Q E s₃) E s₂) E s' := by
  obtain ⟨B, hB, hBG, hN, hO⟩ := R
  refine d_note (Around.frames_deeper K.stack) rfl hO fun h₄ O₄ u₄ => ?_
  refine d_flight (fr := none) O₄ fun h₅ O₅ u₅ => ?_
  have u₅' := hsm.trans (u₄.trans u₅)
  obtain ⟨g₅, oe₅, vs₅, T₅, F₅, K₅, N₅, hc₅, _, _, _⟩ := d_ground K F rfl hBG hN O₅ u₅'
  have X₅ : KF.In g₅ := XB.keeps K₅.stays
  have P₅ : TopRead p loose mg mb g₅ := topRead_of (TB.keeps K₅.stays)
  obtain ⟨nm, q', N, bs, bm, hdct, sn, sub, ab, col, dd, k0, k1, k2, k3, k5, newId, hC, hbase, hbT⟩ := kts_cls X₅ q
  have hC₅ := F₅.keep _ _ hC
  refine wpAny_handleBy_cons (codeAny_handlers_test (name_K F₅ X₅ P₅ ex ?_ hk hx hd)) (by intro q; cases q)
  refine wpAny_excMatches_sub_self hC₅ (N₅ _ (.head _)).1 hc₅ hbase (codeAny_handlers_suite ?_)
  refine d_flight (fr := none) O₅ fun h₆ O₆ u₆ => ?_
  obtain ⟨g₆, oe₆, vs₆, T₆, F₆, K₆, N₆, hc₆, hd₆, hf₆, h2₆⟩ := d_ground K F rfl hBG hN O₆ (u₅'.trans u₆)
  exact wpAny_passesOwnAt hE (k h₆ g₆ oe₆ vs₆ T₆ F₆ N₆ hc₆ hd₆ hf₆ h2₆ K₆ (XB.keeps K₆.stays) (TB.keeps K₆.stays))

/-- except X as n: -/
theorem caught_DB (R : RaisedD base G (envOf name scope L a cd :: outer) e (.ref C) d c2 .none news s'.heap) (F : Fr g L G m) (K : Below A₀ base outer g) (hsm : G.UpToSlots s'.heap) (XB : KF.In base) (TB : Top p loose mean mg mb base)
    (ex : nsIn KF mainGlobals x = some (some (.ref C))) (q : ktsIn KF C "BaseException" = true)
    (k : ∀ h' g' oe vs tk, KtsTurn (outer.filterMap (·.frame)) g g' → Fr g' L h' (fun y => if y = n then some (.ref e) else m y) → News g' L h' ((e, oe) :: news) → oe.cls = .ref C → oe.dict = d → oe.data = .fields vs → vs[2]? = some c2 → Below A₀ base outer g' → KF.In g' → Top p loose mean mg mb g' →
      wpAny (model prog w) ((A₀.deeper (envOf name scope L a cd)).mark (some (.ref e))) (execs (b₀ :: suite) (envOf name scope L a cd))
        (fun f s₄ => wpAny (model prog w) (A₀.deeper (envOf name scope L a cd)) (do bindName (envOf name scope L a cd) n .none; unbindBehindTheSuite (envOf name scope L a cd) n pos) (fun _ s₅ => Q f s₅) E s₄)
        (AsSuiteRaised (model prog w) ((A₀.deeper (envOf name scope L a cd)).mark (some (.ref e))) (envOf name scope L a cd) n pos (notedBy (model prog w) ((A₀.deeper (envOf name scope L a cd)).mark (some (.ref e))) (envOf name scope L a cd) (cameBackBy (model prog w) (A₀.deeper (envOf name scope L a cd)) (envOf name scope L a cd) E)))
        { s' with heap := h', toks := tk })
    (hk : scope.kind = .function := by rfl) (hlo : (envOf name scope L a cd).kindOf n = some .local := by rfl) (hx : (envOf name scope L a cd).kindOf x = some .globalImplicit := by rfl) (hd : (x == ("__debug__" : Str)) = false := by decide) :
    wpAny (model prog w) (A₀.deeper (envOf name scope L a cd)) (noteFrame (.ref e) (envOf name scope L a cd))
      (fun _ s₂ => wpAny (model prog w) (A₀.deeper (envOf name scope L a cd)) (setFlight (.ref e) none) (fun _ s₃ =>
        wpAny (model prog w) (A₀.deeper (envOf name scope L a cd)) (handleBy (.ref e) (envOf name scope L a cd) (.ExceptHandler (some (.Name x np)) (some n) (b₀ :: suite) pos :: rest)) Q E s₃) E s₂) E s' := by
  obtain ⟨B, hB, hBG, hN, hO⟩ := R
  refine d_note (Around.frames_deeper K.stack) rfl hO fun h₄ O₄ u₄ => ?_
  refine d_flight (fr := none) O₄ fun h₅ O₅ u₅ => ?_
  have u₅' := hsm.trans (u₄.trans u₅)
  obtain ⟨g₅, oe₅, vs₅, T₅, F₅, K₅, N₅, hc₅, _, _, _⟩ := d_ground K F rfl hBG hN O₅ u₅'
  have X₅ : KF.In g₅ := XB.keeps K₅.stays
  have P₅ : TopRead p loose mg mb g₅ := topRead_of (TB.keeps K₅.stays)
  obtain ⟨nm, q', N, bs, bm, hdct, sn, sub, ab, col, dd, k0, k1, k2, k3, k5, newId, hC, hbase, hbT⟩ := kts_cls X₅ q
  have hC₅ := F₅.keep _ _ hC
  refine wpAny_handleBy_cons (codeAny_handlers_test (name_K F₅ X₅ P₅ ex ?_ hk hx hd)) (by intro q; cases q)
  refine wpAny_excMatches_sub_self hC₅ (N₅ _ (.head _)).1 hc₅ hbase (codeAny_handlers_suite_as ?_)
  refine d_flight (fr := none) O₅ fun h₆ O₆ u₆ => ?_
  obtain ⟨g₆, oe₆, vs₆, T₆, F₆, K₆, N₆, hc₆, hd₆, hf₆, h2₆⟩ := d_ground K F rfl hBG hN O₆ (u₅'.trans u₆)
  refine stN F₆ N₆ (fun h₇ F₇ N₇ => ?_) hk hlo
  exact k h₇ g₆ oe₆ vs₆ _ T₆ F₇ N₇ hc₆ hd₆ hf₆ h2₆ K₆ (XB.keeps K₆.stays) (TB.keeps K₆.stays)
end

section
variable {prog : Program} {w : World} {A₀ A : Around} {s : Shared} {base h₀ : Heap} {env : Env} {outer : List Env} {L f : Addr} {m : Str → Option Value} {news : List (Addr × Obj)} {K : Frag} {R : Result → Shared → Prop}
  {p : Program} {loose : List Str} {mean : ExcName → Option Value} {mg mb : Str → Option Value}
  {name qual : Str} {params : Arguments} {body : List Stmt} {scope : Scope} {dV kV doc pm cdv ct oc : Value} {an od : Option Addr} {osl : Array (Option Value)} {args : Args} {binds : List (Str × Value)}

/-- a call of a def behind which the frames' slots may be turned -/
theorem enterS (B : Below A₀ base outer h₀) (F : Fr h₀ L s.heap m) (X₀ : K.In h₀) (N : News h₀ L s.heap news) (T : Top p loose mean mg mb h₀)
    (hA : A.frames = some (env :: outer)) (hf : env.frame = some L) (hke : env.scope.kind = .function)
    (ho : K.lookup f = some ⟨oc, od, .func (fnOf name qual params body scope dV kV doc pm an cdv ct), osl⟩) (hcd : codeIn K cdv qual = true) (hroom : A.depth < recursionLimit)
    (hbind : BindsTo s (fnOf name qual params body scope dV kV doc pm an cdv ct) args binds) (hloc : ∀ y ∈ binds, scope.names.lookup y.1 = some .local)
    (h : ∀ g L' h₁, Fr h₀ L g m → Fr g L' h₁ (fun y => binds.reverse.lookup y) → News g L' h₁ news → Below A base (env :: outer) g → K.In g → Top p loose mean mg mb g →
      wpAny (model prog w) (A.deeper (envOf qual scope L' f cdv)) (execs body (envOf qual scope L' f cdv))
        (fun fl s' => ∃ g' L'' m' news', KtsTurn ((env :: outer).filterMap (·.frame)) g g' ∧ Fr g' L'' s'.heap m' ∧ News g' L'' s'.heap news' ∧
          (∀ gh, KtsTurn (outer.filterMap (·.frame)) h₀ gh → Fr gh L s'.heap m → News gh L s'.heap news' → Below A₀ base outer gh → R (.ok (.ret (match fl with | .ret v => v | _ => .none))) s'))
        (fun e s' => wpAny (model prog w) (A.deeper (envOf qual scope L' f cdv)) (leaving (envOf qual scope L' f cdv) e) (fun _ s'' => R (.error e) s'') (fun e' s'' => R (.error e') s'') s')
        { s with heap := h₁, toks := s.toks + binds.length })
    (hco : scope.isCoroutine = false) (hgen : scope.isGenerator = false) (hk : scope.kind = .function)
    (hcell : ∀ x ∈ scope.names, x.2 ≠ .cell) : codeAny (model prog w) A (.call (.ref f) args) R s := by
  have X := X₀.keeps F.keep
  refine codeAny_call_def (fd := fnOf name qual params body scope dV kV doc pm an cdv ct) (body := body) (binds := binds) hroom (X _ _ ho) rfl (T.nolimit.keeps F.keep) (codeRec_of X hcd) rfl hbind hcell hloc (fun h₁ hns hk₁ => ?_) hco hgen hk
  obtain ⟨FG, BG, st, _⟩ := groundX (R := R) B F N hA hf hke
  refine wpAny_mono (h _ s.heap.objs.size h₁ FG ⟨hns, fun b o e => hk₁ b o (of_hideAll _ e), Nat.le_of_eq (hideAll_size _ _)⟩
    (fun p hp => ⟨hk₁ _ _ (N p hp).1, Nat.ne_of_lt (Heap.lt_size (N p hp).1), hideAll_none _ (List.mem_map_of_mem hp)⟩) BG (X₀.keeps st) (T.keeps st)) (fun fl s' hl => ?_) fun _ _ y => y
  obtain ⟨g', L', m', news', T', F', N', k⟩ := hl
  have nL₀ : h₀.get? L = none := kts_self F
  obtain ⟨oL, es, ep, hLg, hLd, hLk, hLf⟩ := FG.ns
  obtain ⟨sl, hs⟩ := T'.up hLg
  obtain ⟨T₁, S₁⟩ := kts_turn_at (h := s'.heap) (fs := outer.filterMap (·.frame)) (g := h₀)
    (fun b hb => by
      obtain ⟨_, o, ho', _⟩ := B.frames.mem hb
      exact ⟨o, ho'⟩)
    (fun b o e nmem => F'.keep b o (T'.other b o (st b o e) (fun q => by
      rcases mem_frames hf q with z | z
      · rw [z, nL₀] at e
        cases e
      · exact nmem z)))
    (fun b o e hm => by
      obtain ⟨sl', hs'⟩ := T'.up (st b o e)
      exact ⟨sl', F'.keep _ _ hs'⟩)
  have B₃ : Below A₀ base outer (ktsHeap s'.heap (outer.filterMap (·.frame)) h₀) := ⟨B.stack, fun b o e => T₁.other b o (B.stays b o e) (fun hm => by
    rw [(B.frames.mem hm).1] at e
    cases e), B.frames.of_keeps fun b o e _ => by
    obtain ⟨sl', hs'⟩ := T₁.up e
    exact ⟨_, hs', rfl⟩⟩
  refine k _ T₁ ⟨⟨_, es, ep, F'.keep _ _ hs, hLd, hLk, hLf⟩, S₁, by rw [T₁.size]; exact F.above⟩ (fun p hp => ⟨(N' p hp).1, fun q => ?_, ?_⟩) B₃
  · have := (N' p hp).2.2; rw [q, hs] at this; cases this
  · refine T₁.none_ _ ?_
    cases q : h₀.get? p.1 with
    | none => rfl
    | some o =>
      obtain ⟨sl', hs'⟩ := T'.up (st _ _ q)
      have := (N' p hp).2.2
      rw [hs'] at this
      cases this
end
end Mine

-- Exc8
open PySem PySem.W PyProof.Rows PySem.Calls
set_option Elab.async false
set_option maxRecDepth 100000
namespace Mine
section
variable {M : Model} {A : Around} {E : Value → Shared → Prop} {s : Shared} {base : Heap} {env : Env} {outer : List Env} {L e : Addr} {cls c2 fl : Value} {d : Option Addr} {Q : Unit → Shared → Prop}
/-- a store in the newest frame leaves the flight as it was -/
theorem OnD.store {h h' : Heap} (o : OnD base (env :: outer) e cls d c2 fl h) (hf : env.frame = some L) (hL : ∃ x es ep, h.get? L = some x ∧ x.data = .dict es ep) (hL' : ∃ x es ep, h'.get? L = some x ∧ x.data = .dict es ep) (sb : Heap.SameBut L h h') : OnD base (env :: outer) e cls d c2 fl h' := by
  obtain ⟨hkb, hen, hl, oe, vs, T, oT, ts, he, hcls, hd, h1, hnT, hTe, hT, hdT, h3⟩ := o
  obtain ⟨x, es, ep, hx, hxd⟩ := hL
  obtain ⟨x', es', ep', hx', hxd'⟩ := hL'
  have hbL : base.get? L = none := by
    obtain ⟨_, ⟨L', _, hf', hn', _⟩, _⟩ := hl
    obtain rfl : L = L' := Option.some.inj (hf.symm.trans hf')
    exact hn'
  have heL : e ≠ L := fun q => by rw [q, hx] at he; injection he with he; subst he; rw [hd] at hxd; cases hxd
  have hTL : T ≠ L := fun q => by rw [q, hx] at hT; injection hT with hT; subst hT; rw [hdT] at hxd; cases hxd
  refine ⟨fun b y hb => (sb.2 b fun q => by rw [q, hbL] at hb; cases hb).trans (hkb b y hb), hen, ?_, oe, vs, T, oT, ts, (sb.2 e heL).trans he, hcls, hd, h1, hnT, hTe, (sb.2 T hTL).trans hT, hdT, h3⟩
  have keep : ∀ (l : List Env), Heap.FunFrames h base l → Heap.FunFrames h' base l := by
    intro l
    induction l with
    | nil => intro _; trivial
    | cons env' r ih =>
      intro hl'
      obtain ⟨hk, ⟨L', o', hf', hn', ho', hd'⟩, hr⟩ := hl'
      refine ⟨hk, ?_, ih hr⟩
      by_cases q : L' = L
      · exact ⟨L', x', hf', hn', q ▸ hx', fun vs q' => by rw [hxd'] at q'; cases q'⟩
      · exact ⟨L', o', hf', hn', (sb.2 L' q).trans ho', hd'⟩
  exact keep _ hl
theorem OnD.hasTrace {h : Heap} (o : OnD base (env :: outer) e cls d c2 fl h) : ∃ oe vs T, h.get? e = some oe ∧ oe.data = .fields vs ∧ vs[1]? = some (.ref T) := by
  obtain ⟨hkb, hen, hl, oe, vs, T, oT, ts, he, hcls, hd, h1, _⟩ := o
  exact ⟨oe, vs, T, he, hd, h1⟩
end
section
variable {M : Model} {A₀ A' : Around} {E Eo : Value → Shared → Prop} {s' : Shared} {base g : Heap} {env : Env} {outer : List Env} {L e : Addr} {m : Str → Option Value} {news : List (Addr × Obj)} {c2 : Value} {n : Str} {pos : Pos}
/-- raised in the suite of an «except X as n», and out of the def -/
theorem suite_leave {oe : Obj} {vs : Array Value} (K : Below A₀ base outer g) (F : Fr g L s'.heap m) (N : News g L s'.heap ((e, oe) :: news)) (hne : ∀ p ∈ news, p.1 ≠ e) (hd : oe.data = .fields vs) (h1 : vs[1]? = some .none) (h2 : vs[2]? = some c2)
    (hA : A'.frames = some (env :: outer))
    (hQ : ∀ h' tk', RaisedD base g outer e oe.cls oe.dict c2 .none news h' → g.UpToSlots h' → E (.ref e) { s' with heap := h', toks := tk' }) (hf : env.frame = some L) (hk : env.scope.kind = .function)
    (hlo : env.kindOf n = some .local) (hloc : env.locals = L) (hp : (env.scope.kind == .class || (env.scope.kind == .module && env.locals != env.globals)) = false) :
    AsSuiteRaised M A' env n pos (notedBy M A' env (cameBackBy M (A₀.deeper env) env (fun x s'' => wpAny M (A₀.deeper env) (leaving env x) (fun _ s3 => E x s3) Eo s''))) (.ref e) s' := by
  obtain ⟨B, b1, b2, b3, b4, b5, b6⟩ := raisedD_base (env := env) K F N hf hk hne
  refine d_noteNew hA b4 hf (N _ (.head _)).1 b2 b3 hd h1 h2 fun h₁ O₁ u₁ => ?_
  have hnd : ∃ x es ep, h₁.get? L = some x ∧ x.data = .dict es ep ∧ StrKeys es ∧ ∀ name, nsFind es name = m name := by
    obtain ⟨o, es, ep, ho, hdt, hs, hm⟩ := F.ns
    obtain ⟨sl, h'⟩ := u₁ _ _ ho (fun vs q => by rw [hdt] at q; cases q)
    exact ⟨_, es, ep, h', hdt, hs, hm⟩
  obtain ⟨x1, es1, ep1, hx1, hd1, hs1, hm1⟩ := hnd
  refine wpAny_nameGoes hlo (m := m) (by rw [hloc]; exact ⟨x1, es1, ep1, hx1, hd1, hs1, hm1⟩) hp fun h₂ m₂ hn₂ sb => ?_
  rw [hloc] at hn₂ sb
  obtain ⟨x2, es2, ep2, hx2, hd2, _, _⟩ := hn₂
  have O₂ := O₁.store hf ⟨x1, es1, ep1, hx1, hd1⟩ ⟨x2, es2, ep2, hx2, hd2⟩ sb
  have U₂ : g.UpToSlots h₂ := fun b o hb hnf => by
    obtain ⟨sl, hs⟩ := (Heap.UpToSlots.of_keeps F.keep).trans u₁ b o hb hnf
    exact ⟨sl, (sb.2 b fun q => by rw [q, kts_self F] at hb; cases hb).trans hs⟩
  unfold PySem.passOn
  obtain ⟨oe3, vs3, T3, he3, hd3, h13⟩ := O₂.hasTrace
  refine wpAny_bind (wpAny_field he3 hd3 h13 ?_)
  rw [if_neg (show ¬ ((Value.ref T3 == Value.none) = true) from by simp)]
  refine wpAny_bind (d_flight (fr := env.frame) O₂ fun h₃ O₃ u₃ => ?_)
  rw [hf] at O₃
  refine wpAny_throw ?_
  refine d_noteAgain hf O₃ ?_
  show cameBackBy M (A₀.deeper env) env _ _ _
  unfold cameBackBy
  obtain ⟨oe4, vs4, T4, he4, hd4, h14⟩ := O₃.hasTrace
  refine wpAny_bind (wpAny_field he4 hd4 h14 ?_)
  rw [if_neg (show ¬ ((Value.ref T4 == Value.none) = true) from by simp)]
  refine d_flight (fr := env.frame) O₃ fun h₄ O₄ u₄ => ?_
  rw [hf] at O₄
  refine d_leaveHeld hf O₄ fun h₅ O₅ u₅ => ?_
  exact hQ h₅ _ ⟨B, b1, b5, b6, O₅⟩ (U₂.trans (u₃.trans (u₄.trans u₅)))
/-- a flight over turned frames is one over the old ground -/
theorem RaisedD.unturn {g' : Heap} {l : List Env} {cls : Value} {d : Option Addr} {fl : Value} {h : Heap} (T : KtsTurn (l.filterMap (·.frame)) g g') (R : RaisedD base g' l e cls d c2 fl news h) (hn : ∀ q ∈ news, g.get? q.1 = none) : RaisedD base g l e cls d c2 fl news h := by
  obtain ⟨B, b1, b5, b6, O⟩ := R
  exact ⟨B, b1, fun b o q nm => b5 b o (T.other b o q nm) nm, fun q hq => ⟨(b6 q hq).1, hn q hq, (b6 q hq).2.2⟩, O⟩
end
end Mine

-- Base2
open PySem PySem.W PyProof.Rows PySem.Calls
set_option Elab.async false
namespace Mine
abbrev Led := List (Addr × Obj)
/-- the dict of a cursor -/
abbrev curD (T : Str) (k : Int) (h1 : Int) (k1 t1 : Tok) (h2 : Int) (k2 t2 : Tok) : Obj := dictOf [⟨h1, .str (Str.ofString "text") k1, .str T t1⟩, ⟨h2, .str (Str.ofString "at") k2, .int k t2⟩] 2
/-- the dict of a fault -/
abbrev faultD (h1 : Int) (k1 : Tok) (mt : Str) (t1 : Tok) (h2 : Int) (k2 : Tok) (v2 : Value) : Obj := dictOf [⟨h1, .str (Str.ofString "message") k1, .str mt t1⟩, ⟨h2, .str (Str.ofString "place") k2, v2⟩] 2
/-- a SyntaxFault leaves the call -/
abbrev Faults (base h₀ : Heap) (L : Addr) (m : Str → Option Value) (env : Env) (outer : List Env) (news : Led) (E : Value → Shared → Prop) (s : Shared) : Prop :=
  ∀ (g₂ : Heap) (e d : Addr) (h1 : Int) (k1 : Tok) (mt : Str) (t1 : Tok) (h2 : Int) (k2 : Tok) (v2 : Value) (h' : Heap) (tk' : Nat), mt.length ≤ 100 → Fr h₀ L g₂ m →
    RaisedD base g₂ (env :: outer) e (.ref 136) (some d) .none .none ((d, faultD h1 k1 mt t1 h2 k2 v2) :: news) h' → g₂.UpToSlots h' → E (.ref e) { s with heap := h', toks := tk' }
end Mine

-- Rules
open PySem PySem.W PyProof.Rows PySem.Calls
set_option Elab.async false
namespace Mine
theorem s_msg {a b : Str} (ha : a.length ≤ 60) (hb : b.length ≤ 40) : (a ++ b).length ≤ 100 := by rw [Str.length_append]; omega
theorem meta_Exception : typeOf (.type "Exception") = pure (.type "type") := by kernel_rfl
theorem refuse136 (x : Addr) : refuseLoop (.ref x) "__setattr__" [.ref 136, .ref 115, .type "Exception", .type "BaseException", .type "object"] = pure () := by
  rw [refuseLoop_ref, refuseLoop_ref]; exact PySem.F.store_Exception.passes _
theorem refuse148 (x : Addr) : refuseLoop (.ref x) "__setattr__" [.ref 148, .ref 115, .type "Exception", .type "BaseException", .type "object"] = pure () := by
  rw [refuseLoop_ref, refuseLoop_ref]; exact PySem.F.store_Exception.passes _
section
variable {prog : Program} {w : World} {p : Program} {loose : List Str} {mean : ExcName → Option Value} {mg mb : Str → Option Value} {A₀ : Around} {base h₀ : Heap} {outer : List Env} {cn : Str} {cs : Scope} {ca L : Addr} {ccd : Value} {cl : List (Str × Addr)} {m : Str → Option Value} {rest : Led} {s : Shared} {Q E : Value → Shared → Prop}
/-- what a raised expression hands on -/
def RaiseEnd (K : Frag) (C : Addr) (E : Value → Shared → Prop) (v : Value) (s₁ : Shared) : Prop := ∃ e t d, v = .ref e ∧ K.In s₁.heap ∧ s₁.heap.get? e = some (excObj C t d) ∧ E (.ref e) s₁
theorem e_exec0 {A : Around} {env : Env} {x : Expr} {pos : Pos} {K : Frag} {C : Addr} {nm q : Str} {N : Addr} {bs : List Value} {hdct : Bool} {sn : List Str} {sub : List Value} {ab : Bool} {col : Option Bool} {dd : Option Addr} {k0 k1 k2 k3 k5 : Option Value} {Q : Flow → Shared → Prop} (hh : A.handled = none) (_X : K.In h₀)
    (hK : K.lookup C = some (excClassObj nm q C N bs bmX hdct sn sub ab col dd k0 k1 k2 k3 k5 "Exception.__new__"))
    (h : wpAny (model prog w) A (eval x env) (RaiseEnd K C E) E s) : wpAny (model prog w) A (exec (.Raise (some x) none pos) env) Q E s := by
  show wpAny (model prog w) A (do standAt pos; raiseStmt env (some (do let v ← eval x env; standAt pos; pure v)) none) Q E s
  refine wpAny_bind (wpAny_standAt (e_raise0 (C := C) (nm := nm) (q := q) (N := N) (bs := bs) (hdct := hdct) (sn := sn) (sub := sub) (ab := ab) (col := col) (dd := dd) (k0 := k0) (k1 := k1) (k2 := k2) (k3 := k3) (k5 := k5) hh (wpAny_bind (wpAny_mono h (fun v s₁ h₁ => wpAny_bind (wpAny_standAt (wpAny_pure ?_))) fun _ _ z => z))))
  obtain ⟨e, t, d, rfl, X, he, hE⟩ := h₁
  exact ⟨e, t, d, rfl, X _ _ hK, he, hE⟩
end
end Mine

-- Rules2
open PySem PySem.W PyProof.Rows PySem.Calls
set_option Elab.async false
namespace Mine
/-- an exception raised while another is handled -/
abbrev excObj2 (C t : Addr) (d : Option Addr) (e0 : Addr) : Obj := { cls := .ref C, dict := d, data := .fields #[.ref t, .none, .ref e0, .none, .bool false, .none] }
/-- an EntityFault leaves the call -/
abbrev EFaults (base h₀ : Heap) (L : Addr) (m : Str → Option Value) (env : Env) (outer : List Env) (news : Led) (E : Value → Shared → Prop) (s : Shared) : Prop :=
  ∀ (g₂ : Heap) (e d : Addr) (c2 : Value) (h' : Heap) (tk' : Nat), Fr h₀ L g₂ m →
    RaisedD base g₂ (env :: outer) e (.ref 148) (some d) c2 .none news h' → g₂.UpToSlots h' → E (.ref e) { s with heap := h', toks := tk' }
section
variable {prog : Program} {w : World} {p : Program} {loose : List Str} {mean : ExcName → Option Value} {mg mb : Str → Option Value} {A₀ : Around} {base h₀ : Heap} {outer : List Env} {cn : Str} {cs : Scope} {ca L : Addr} {ccd : Value} {cl : List (Str × Addr)} {m : Str → Option Value} {rest : Led} {s : Shared} {Q E : Value → Shared → Prop}
theorem lt2_off {news : Led} {d x : Addr} (l1 : ∀ p ∈ news, p.1 < d) (l2 : d < x) : ∀ p ∈ news, p.1 ≠ x := fun p hp => Nat.ne_of_lt (Nat.lt_trans (l1 p hp) l2)
theorem turn_upto {fs : List Addr} {g g' h : Heap} (T : KtsTurn fs g g') (U : g'.UpToSlots h) : g.UpToSlots h := by
  refine Heap.UpToSlots.trans (fun b o hb hnf => ?_) U
  by_cases hm : b ∈ fs
  · exact T.frame b o hb hm
  · exact ⟨o.slots, T.other b o hb hm⟩
theorem inst_exc {h : Heap} {g : Heap} {C e d : Addr} {oe D : Obj} {vs : Array Value} {news : Led} (N : News g L h news) (h1 : (e, oe) ∈ news) (h2 : (d, D) ∈ news) (hc : oe.cls = .ref C) (hd : oe.dict = some d) (hf : oe.data = .fields vs) : InstAt h e oe C (some D) :=
  ⟨(N _ h1).1, hc, by unfold notCls; rw [hf], by rw [hd]; exact (N _ h2).1⟩
/-- what an expression raised in a handler hands on -/
def RaiseEnd1 (K : Frag) (C e0 : Addr) (g : Heap) (L : Addr) (m : Str → Option Value) (E : Value → Shared → Prop) (v : Value) (s₁ : Shared) : Prop :=
  ∃ e t d news o0 vs0, v = .ref e ∧ Fr g L s₁.heap m ∧ News g L s₁.heap ((e, excObj C t d) :: news) ∧ (∀ p ∈ news, p.1 ≠ e) ∧ (e0, o0) ∈ news ∧ o0.data = .fields vs0 ∧ vs0[2]? = some .none ∧
    (∀ h', Fr g L h' m → News g L h' ((e, excObj2 C t d e0) :: news) → E (.ref e) { s₁ with heap := h' })
theorem e_exec1 {A : Around} {env : Env} {x : Expr} {pos : Pos} {K : Frag} {C e0 : Addr} {nm q : Str} {N : Addr} {bs : List Value} {hdct : Bool} {sn : List Str} {sub : List Value} {ab : Bool} {col : Option Bool} {dd : Option Addr} {k0 k1 k2 k3 k5 : Option Value} {Q : Flow → Shared → Prop} (hh : A.handled = some (.ref e0)) (X : K.In h₀)
    (hK : K.lookup C = some (excClassObj nm q C N bs bmX hdct sn sub ab col dd k0 k1 k2 k3 k5 "Exception.__new__")) (_F : Fr h₀ L s.heap m)
    (h : wpAny (model prog w) A (eval x env) (RaiseEnd1 K C e0 h₀ L m E) E s) : wpAny (model prog w) A (exec (.Raise (some x) none pos) env) Q E s := by
  show wpAny (model prog w) A (do standAt pos; raiseStmt env (some (do let v ← eval x env; standAt pos; pure v)) none) Q E s
  refine wpAny_bind (wpAny_standAt (e_raise1 (C := C) (nm := nm) (q := q) (N := N) (bs := bs) (hdct := hdct) (sn := sn) (sub := sub) (ab := ab) (col := col) (dd := dd) (k0 := k0) (k1 := k1) (k2 := k2) (k3 := k3) (k5 := k5) hh (wpAny_bind (wpAny_mono h (fun v s₁ h₁ => wpAny_bind (wpAny_standAt (wpAny_pure ?_))) fun _ _ z => z))))
  obtain ⟨e, t, d, news, o0, vs0, rfl, F, N, hne, h0, hd0, hv0, hE⟩ := h₁
  have hge := (N _ (.head _)).1
  refine ⟨e, t, d, o0, vs0, rfl, (hne _ h0).symm, X.keeps F.keep _ _ hK, hge, (N _ (.tail _ h0)).1, hd0, hv0, hE _ (F.update N (.head _) (Heap.SameBut.update _ _ _)) fun r hr => ?_⟩
  rcases List.mem_cons.mp hr with rfl | hr
  · refine ⟨?_, (N _ (.head _)).2⟩
    have := Heap.get?_update_self (Obj.mapFields (·.setIfInBounds 2 (Value.ref e0))) hge (Obj.isFreed_of_fields (Obj.data_mapFields (o := excObj C t d) (rfl : _ = Data.fields #[.ref t, .none, .none, .none, .bool false, .none]) _))
    exact this
  · exact ⟨(Heap.get?_update_other _ _ (Ne.symm (hne _ hr))).trans (N _ (.tail _ hr)).1, (N _ (.tail _ hr)).2⟩
end
end Mine

-- W1
open PySem PySem.W PyProof.Rows PySem.Calls
set_option Elab.async false
namespace Mine
/-- one turn of a loop that leaves the frame's names as they were -/
def TurnQ {σ : Type} (h₀ : Heap) (L : Addr) (s : Shared) (m : Str → Option Value) (Ld : σ → Led) (P : σ → Prop) (μ : σ → Nat) (Q : Flow → Shared → Prop) (c : σ) (f : Flow) (s₃ : Shared) : Prop :=
  match f with
  | .next | .cont => ∃ h' tk c', s₃ = { s with heap := h', toks := tk } ∧ Fr h₀ L h' m ∧ News h₀ L h' (Ld c') ∧ P c' ∧ μ c' < μ c
  | .brk => Q .next s₃
  | .ret v => Q (.ret v) s₃
theorem turn_next {σ : Type} {h₀ : Heap} {L : Addr} {s : Shared} {m : Str → Option Value} {Ld : σ → Led} {P : σ → Prop} {μ : σ → Nat} {Q : Flow → Shared → Prop} {c : σ} {h' : Heap} {tk : Nat} (c' : σ)
    (F : Fr h₀ L h' m) (N : News h₀ L h' (Ld c')) (p : P c') (l : μ c' < μ c) : TurnQ h₀ L s m Ld P μ Q c .next { s with heap := h', toks := tk } := ⟨h', tk, c', rfl, F, N, p, l⟩
theorem still_while {σ : Type} {prog : Program} {w : World} {A : Around} {E : Value → Shared → Prop} {Q : Flow → Shared → Prop} {s : Shared} {env : Env} {h₀ : Heap} {L : Addr} {test : Expr} {body : List Stmt} {pos : Pos} {m : Str → Option Value}
    (Ld : σ → Led) (P : σ → Prop) (μ : σ → Nat) (c₀ : σ) (F : Fr h₀ L s.heap m) (N : News h₀ L s.heap (Ld c₀)) (hp : P c₀)
    (turn : ∀ (c : σ) h tk, P c → Fr h₀ L h m → News h₀ L h (Ld c) →
      wpAny (model prog w) A (isTrue test env (eval test env)) (fun b s₂ =>
        if b = true then wpAny (model prog w) A (execs body env) (TurnQ h₀ L s m Ld P μ Q c) E s₂ else Q .next s₂) E { s with heap := h, toks := tk })
    (hE : PassesOwn (model prog w) A env E := by passes_own) :
    wpAny (model prog w) A (exec (.While test body [] pos) env) Q E s := by
  refine While_inv2 (fun n m' nx => m' = m ∧ ∃ c : σ, nx = Ld c ∧ μ c = n ∧ P c) F N ⟨rfl, c₀, rfl, rfl, hp⟩ ?_ hE
  rintro n m₁ nx h tk F₁ N₁ ⟨rfl, c, rfl, rfl, hp'⟩
  refine wpAny_mono (turn c h tk hp' F₁ N₁) (fun b s₂ p => ?_) fun _ _ x => x
  cases b with
  | false => simpa using p
  | true =>
    simp only [if_true] at p ⊢
    refine wpAny_mono p (fun f s₃ q => ?_) fun _ _ x => x
    cases f with
    | ret v => exact q
    | brk => exact q
    | next => obtain ⟨h', tk', c', rfl, F', N', p', l'⟩ := q; exact ⟨h', tk', _, _, _, rfl, F', N', l', rfl, c', rfl, rfl, p'⟩
    | cont => obtain ⟨h', tk', c', rfl, F', N', p', l'⟩ := q; exact ⟨h', tk', _, _, _, rfl, F', N', l', rfl, c', rfl, rfl, p'⟩
end Mine

-- Def1
open PySem PySem.W PyProof.Rows PySem.Calls
set_option Elab.async false
namespace Mine
/-- the sign at c is a space -/
def isSp (T : Str) (c : Int) : Bool := decide (c < T.length) && !(Builtin.Str.occurrences (Str.ofString " \t\n\x0d") (Txt.item T c) 0 (Str.ofString " \t\n\x0d").length 1).isEmpty
def spGo (T : Str) : Nat → Int → Int
  | 0, c => c
  | n + 1, c => if isSp T c then spGo T n (c + 1) else c
def spEnd (T : Str) (k : Int) : Int := spGo T (T.length - k).toNat k
theorem isSp_lt {T : Str} {c : Int} (h : isSp T c = true) : c < T.length := by
  unfold isSp at h
  simp only [Bool.and_eq_true, decide_eq_true_eq] at h
  exact h.1
theorem spEnd_step {T : Str} {c : Int} (h : isSp T c = true) : spEnd T (c + 1) = spEnd T c := by
  have hl := isSp_lt h
  unfold spEnd
  have e : (T.length - c).toNat = (T.length - (c + 1)).toNat + 1 := by omega
  rw [e]
  show _ = (if isSp T c then _ else _)
  rw [if_pos h]
theorem spEnd_stop {T : Str} {c : Int} (h : isSp T c = false) : spEnd T c = c := by
  unfold spEnd
  cases (T.length - c).toNat with
  | zero => rfl
  | succ n => show (if isSp T c then _ else _) = _; rw [h]; rfl
theorem isSp_of {T : Str} {c : Int} (h1 : c < T.length) (h2 : (Builtin.Str.occurrences (Str.ofString " \t\n\x0d") (Txt.item T c) 0 (Str.ofString " \t\n\x0d").length 1).isEmpty = false) : isSp T c = true := by
  unfold isSp
  simp [h1, h2]
theorem isSp_off {T : Str} {c : Int} (h1 : ¬ c < T.length) : isSp T c = false := by
  unfold isSp
  simp [h1]
theorem isSp_no {T : Str} {c : Int} (h2 : (Builtin.Str.occurrences (Str.ofString " \t\n\x0d") (Txt.item T c) 0 (Str.ofString " \t\n\x0d").length 1).isEmpty = true) : isSp T c = false := by
  unfold isSp
  rw [h2]; simp
theorem bne_empty {x : Str} (h : (x != Str.ofString "") = false) (h1 : 1 ≤ x.length ∧ x.length ≤ 1) : False := by
  have e : x = Str.ofString "" := by simpa using h
  rw [e] at h1
  exact absurd h1.1 (by decide)
end Mine

-- Def2
open PySem PySem.W PyProof.Rows PySem.Calls
set_option Elab.async false
namespace Mine
theorem find3_le {x y : Str} {i : Int} (h : 0 ≤ Txt.find3 x y i) : Txt.find3 x y i + (y.length : Int) ≤ x.length := by
  unfold Txt.find3 at h ⊢
  have sp := PySem.StrLaws.occ_spec x y (fromIndex x.length i) x.length 1
  cases e : Builtin.Str.occurrences x y (fromIndex x.length i) x.length 1 with
  | nil => rw [e] at h; exact absurd h (by decide)
  | cons k r =>
    rw [e] at sp
    have := (sp k (.head _)).1
    simp only; omega
theorem fromIndex_nn {n : Nat} {i : Int} (h : 0 ≤ i) : fromIndex n i = i.toNat := by
  unfold fromIndex
  rw [if_neg (by omega)]
  congr 1; omega
theorem starts_le {x y : Str} {i : Int} (h0 : 0 ≤ i) (h : Txt.startswith3 x y i = true) : i + (y.length : Int) ≤ x.length := by
  unfold Txt.startswith3 at h
  rw [fromIndex_nn h0] at h
  simp only [Bool.and_eq_true, decide_eq_true_eq] at h
  have := h.1
  omega
end Mine

-- Def3
open PySem PySem.W PyProof.Rows PySem.Calls
set_option Elab.async false
namespace Mine
theorem q_eq {z : Str} {c : String} (h : (z != Str.ofString c) = false) : z = Str.ofString c := by simpa using h
theorem q_len {z : Str} (h : (z != Str.ofString "\"") = false ∨ (z != Str.ofString "'") = false) : z.length = 1 := by
  rcases h with h | h
  · rw [q_eq h]; decide
  · rw [q_eq h]; decide
open Builtin Builtin.Str StrLaws in
theorem idx_clamp (i j n : Nat) : strSliceIndices (some (i : Int)) (some (j : Int)) 1 n = strSliceIndices (some ((min i n : Nat) : Int)) (some ((min j n : Nat) : Int)) 1 n := by
  have h1 : ¬ ((i : Int) < 0) := by omega
  have h2 : ¬ ((j : Int) < 0) := by omega
  have h3 : ¬ (((min i n : Nat) : Int) < 0) := by omega
  have h4 : ¬ (((min j n : Nat) : Int) < 0) := by omega
  have e1 : max (0 : Int) (min (i : Int) (n : Int)) = (min i n : Nat) := by omega
  have e2 : max (0 : Int) (min (j : Int) (n : Int)) = (min j n : Nat) := by omega
  have e3 : max (0 : Int) (min ((min i n : Nat) : Int) (n : Int)) = (min i n : Nat) := by omega
  have e4 : max (0 : Int) (min ((min j n : Nat) : Int) (n : Int)) = (min j n : Nat) := by omega
  simp only [strSliceIndices, h1, h2, h3, h4, if_false, e1, e2, e3, e4, show ((1 : Int) > 0) = True from by simp, if_true]
open Builtin Builtin.Str StrLaws in
theorem idx_empty {a b n : Nat} (h : b < a) (ha : a ≤ n) : strSliceIndices (some (a : Int)) (some (b : Int)) 1 n = [] := by
  have h1 : ¬ ((a : Int) < 0) := by omega
  have h2 : ¬ ((b : Int) < 0) := by omega
  have e1 : max (0 : Int) (min (a : Int) (n : Int)) = a := by omega
  have e2 : max (0 : Int) (min (b : Int) (n : Int)) = b := by omega
  have e3 : ¬ ((a : Int) < (b : Int)) := by omega
  simp [strSliceIndices, sliceRange, h1, h2, e1, e2, e3]
open Builtin Builtin.Str StrLaws in
/-- a slice between two counts -/
theorem slice_nn (x : Str) (i j : Nat) : Txt.slice x (some (i : Int)) (some (j : Int)) = ⟨((x.cps.toList.drop i).take (j - i)).toArray⟩ := by
  show sliceText x _ _ = _
  have ec : sliceText x (some (i : Int)) (some (j : Int)) = sliceText x (some ((min i x.length : Nat) : Int)) (some ((min j x.length : Nat) : Int)) := by
    unfold sliceText; rw [idx_clamp]
  have hsz : x.cps.toList.length = x.length := by simp [Str.length]
  by_cases hle : min i x.length ≤ min j x.length
  · rw [ec, sliceText_nat x hle (Nat.min_le_right _ _)]
    apply Str.ext'
    simp only
    congr 1
    by_cases hi : i ≤ x.length
    · rw [Nat.min_eq_left hi]
      apply List.take_eq_take_iff.mpr
      simp only [List.length_drop, hsz]; omega
    · rw [List.drop_eq_nil_of_le (by rw [hsz]; omega), List.drop_eq_nil_of_le (as := x.cps.toList) (i := i) (by rw [hsz]; omega)]
      simp
  · rw [ec]
    unfold sliceText
    rw [idx_empty (by omega) (Nat.min_le_right _ _)]
    have : (j - i) = 0 := by omega
    rw [this]
    split
    · rename_i h
      have h0 : 0 = x.length := by simpa using h
      omega
    · rfl
theorem slice_int {x : Str} {i j : Int} (h0 : 0 ≤ i) (h1 : 0 ≤ j) : Txt.slice x (some i) (some j) = ⟨((x.cps.toList.drop i.toNat).take (j.toNat - i.toNat)).toArray⟩ := by
  obtain ⟨a, rfl⟩ := Int.eq_ofNat_of_zero_le h0
  obtain ⟨b, rfl⟩ := Int.eq_ofNat_of_zero_le h1
  exact slice_nn x a b
theorem q_lt {T : Str} {k : Int} (h0 : 0 ≤ k) (h : (Txt.slice T (some k) (some (k + 1))).length = 1) : k + 1 ≤ T.length := by
  rw [slice_int h0 (by omega)] at h
  have hsz : T.cps.toList.length = T.length := by simp [Str.length]
  simp only [Str.length, List.size_toArray, List.length_take, List.length_drop] at h
  simp only [Str.length] at hsz ⊢
  omega
/-- the sign at a place, as a cut -/
abbrev quoteAt (T : Str) (k : Int) : Str := Txt.slice T (some k) (some (k + 1))
/-- what stands between the quote at k and its like -/
abbrev quotedIn (T : Str) (k : Int) : Str := Txt.slice T (some (k + 1)) (some (Txt.find3 T (quoteAt T k) (k + 1)))
/-- is there something quoted at k -/
def quotes (T : Str) (k : Int) : Bool := (!(quoteAt T k != Str.ofString "\"") || !(quoteAt T k != Str.ofString "'")) && decide (0 ≤ Txt.find3 T (quoteAt T k) (k + 1))
theorem quotes_yes {T : Str} {k : Int} (h : (quoteAt T k != Str.ofString "\"") = false ∨ (quoteAt T k != Str.ofString "'") = false) (h1 : 0 ≤ Txt.find3 T (quoteAt T k) (k + 1)) : quotes T k = true := by
  unfold quotes
  rcases h with h | h <;> simp [h, h1]
theorem quotes_no1 {T : Str} {k : Int} (h : (quoteAt T k != Str.ofString "\"") = true) (h' : (quoteAt T k != Str.ofString "'") = true) : quotes T k = false := by
  unfold quotes
  rw [h, h']; rfl
theorem quotes_no2 {T : Str} {k : Int} (h1 : Txt.find3 T (quoteAt T k) (k + 1) < 0) : quotes T k = false := by
  unfold quotes
  rw [decide_eq_false (by omega), Bool.and_false]
end Mine

-- Def4
open PySem PySem.W PyProof.Rows PySem.Calls
set_option Elab.async false
namespace Mine
/-- behind an equals sign and the spaces around it -/
def eqEnd (T : Str) (k : Int) : Option Int :=
  if Txt.startswith3 T (Str.ofString "=") (spEnd T k) = true then some (spEnd T (spEnd T k + ((Str.ofString "=").length : Int))) else none
/-- a named value: the value, and the place behind it -/
def wordAt (T W : Str) (k : Int) : Option (Str × Int) :=
  if Txt.startswith3 T W k = true then
    match eqEnd T (k + (W.length : Int)) with
    | none => none
    | some b => if quotes T b = true then some (quotedIn T b, Txt.find3 T (quoteAt T b) (b + 1) + ((quoteAt T b).length : Int)) else none
  else none
theorem eqEnd_yes {T : Str} {k : Int} (h : Txt.startswith3 T (Str.ofString "=") (spEnd T k) = true) : eqEnd T k = some (spEnd T (spEnd T k + ((Str.ofString "=").length : Int))) := if_pos h
theorem eqEnd_no {T : Str} {k : Int} (h : Txt.startswith3 T (Str.ofString "=") (spEnd T k) = false) : eqEnd T k = none := if_neg (by rw [h]; decide)
theorem wordAt_no1 {T W : Str} {k : Int} (h : Txt.startswith3 T W k = false) : wordAt T W k = none := if_neg (by rw [h]; decide)
theorem wordAt_no2 {T W : Str} {k : Int} (h : eqEnd T (k + (W.length : Int)) = none) : wordAt T W k = none := by
  unfold wordAt; rw [h]; split <;> rfl
theorem wordAt_no3 {T W : Str} {k b : Int} (h : eqEnd T (k + (W.length : Int)) = some b) (h2 : quotes T b = false) : wordAt T W k = none := by
  unfold wordAt; rw [h]; simp [h2]
theorem wordAt_yes {T W : Str} {k b : Int} (h1 : Txt.startswith3 T W k = true) (h : eqEnd T (k + (W.length : Int)) = some b) (h2 : quotes T b = true) :
    wordAt T W k = some (quotedIn T b, Txt.find3 T (quoteAt T b) (b + 1) + ((quoteAt T b).length : Int)) := by
  unfold wordAt; rw [h]; simp [h1, h2]
end Mine

-- W2
open PySem PySem.W PyProof.Rows PySem.Calls
set_option Elab.async false
namespace Mine
/-- one turn of a loop over a text -/
def SignQ (h₀ : Heap) (L : Addr) (s : Shared) (x : Str) (m₀ : Str → Option Value) (news : Led) (P : Prop) (Q : Flow → Shared → Prop) (f : Flow) (s₃ : Shared) : Prop :=
  match f with
  | .next | .cont => ∃ h' tk mm, s₃ = { s with heap := h', toks := tk } ∧ Fr h₀ L h' mm ∧ (∀ y, y ≠ x → mm y = m₀ y) ∧ News h₀ L h' news ∧ P
  | .brk => Q .next s₃
  | .ret v => Q (.ret v) s₃
theorem sign_next {h₀ : Heap} {L : Addr} {s : Shared} {x : Str} {m₀ mm : Str → Option Value} {news : Led} {P : Prop} {Q : Flow → Shared → Prop} {h' : Heap} {tk : Nat}
    (F : Fr h₀ L h' mm) (N : News h₀ L h' news) (hm : ∀ y, y ≠ x → mm y = m₀ y) (p : P) : SignQ h₀ L s x m₀ news P Q .next { s with heap := h', toks := tk } := ⟨h', tk, mm, rfl, F, hm, N, p⟩
section
variable {prog : Program} {w : World} {A : Around} {E : Value → Shared → Prop} {s : Shared} {env : Env} {h₀ : Heap} {x : PySem.Str} {body : List Stmt} {Q : Flow → Shared → Prop}
theorem text_each {xt : PySem.Str} {tx : Tok} {m₀ : PySem.Str → Option Value} {news : Led} (P : List Nat → Prop)
    (hh : A.handled = none) (F : Fr h₀ env.locals s.heap m₀) (N : News h₀ env.locals s.heap news) (hp : P [])
    (turn : ∀ (pre post : List Nat) (n : Nat) t h tk own, xt.cps.toList = pre ++ n :: post → P pre →
      Fr h₀ env.locals h (fun y => if y = x then some (.str ⟨#[n]⟩ t) else m₀ y) → News h₀ env.locals h (news ++ own) →
      wpAny (model prog w) A (execs body env) (SignQ h₀ env.locals { s with heap := h, toks := tk } x m₀ (news ++ own) (P (pre ++ [n])) Q) E { s with heap := h, toks := tk })
    (done : ∀ (o : Option Value) h tk, P xt.cps.toList → Fr h₀ env.locals h (fun y => if y = x then o else m₀ y) → News h₀ env.locals h news → Q .next { s with heap := h, toks := tk }) :
    wpAny (model prog w) A (pyIter (.str xt tx)) (fun it s₂ => LoopAtV prog w A h₀ env x body Q E it s₂) E s := by
  have back : ∀ l : List Nat, (l.map fun (c : Nat) => (c : Int)).map Int.toNat = l := by
    intro l; rw [List.map_map]
    exact (List.map_congr_left (g := _root_.id) fun c _ => Int.toNat_natCast c).trans (List.map_id _)
  refine KStt.kst_text (σ := Unit) (fun _ => news) (fun _ => []) (fun _ => True) [] (fun l _ => P (l.map Int.toNat)) () hh F N trivial (fun p hp => nomatch hp) (by simpa using hp) ?_ ?_
  · intro c pre post n t u h tk own e _ _ hp' F' N'
    have e' : xt.cps.toList = pre.map Int.toNat ++ n :: post.map Int.toNat := by
      have := congrArg (List.map Int.toNat) e
      rw [show KStt.codes xt = xt.cps.toList.map (fun (c : Nat) => (c : Int)) from rfl, back] at this
      rw [this, List.map_append]; rfl
    have T := turn (pre.map Int.toNat) (post.map Int.toNat) n t h tk own e' hp' F' N'
    refine wpAny_mono T (fun f s₃ q => ?_) fun _ _ x => x
    have key : ∀ (h' : Heap) (tk' : Nat) (mm : PySem.Str → Option Value), s₃ = { s with heap := h', toks := tk' } → Fr h₀ env.locals h' mm → (∀ y, y ≠ x → mm y = m₀ y) → News h₀ env.locals h' (news ++ own) → P (pre.map Int.toNat ++ [n]) →
        InvEndN h₀ env.locals (KstS (fun _ : Unit => news) (fun _ => []) (fun _ => True) x [] m₀ (fun l _ => P (l.map Int.toNat)) (pre ++ [(n : Int)])) own (news.map (·.1)) { s with heap := h, toks := tk } s₃ := by
      intro h' tk' mm e1 F1 hm N1 p1
      refine ⟨h', tk', mm, news ++ own, news, e1, F1, N1, fun p hp => List.mem_append_left _ hp, fun p hp => List.mem_append_right _ hp, rfl, (), rfl, trivial, (fun p hp => nomatch hp), fun z hz _ _ => hm z hz, ?_⟩
      simpa using p1
    cases f with
    | next => obtain ⟨h', tk', mm, e1, F1, hm, N1, p1⟩ := q; exact key h' tk' mm e1 F1 hm N1 p1
    | cont => obtain ⟨h', tk', mm, e1, F1, hm, N1, p1⟩ := q; exact key h' tk' mm e1 F1 hm N1 p1
    | brk => exact q
    | ret v => exact q
  · intro c u h tk _ hp' F' N'
    have hp2 : P xt.cps.toList := by
      rw [show KStt.codes xt = xt.cps.toList.map (fun (c : Nat) => (c : Int)) from rfl, back] at hp'
      exact hp'
    exact done (u x) h tk hp2 (by
      have e : (fun y => if y = x then u x else m₀ y) = (fun y => if y = x then u y else m₀ y) := by
        funext y; by_cases hy : y = x
        · simp [hy]
        · simp [hy]
      rw [e]; exact F') N'
end
end Mine

-- Def5
open PySem PySem.W PyProof.Rows PySem.Calls
set_option Elab.async false
namespace Mine
/-- does the text stand in the other -/
abbrev inText (A z : Str) : Bool := !(Builtin.Str.occurrences A z 0 A.length 1).isEmpty
def isFig (c : Nat) : Bool := inText (Str.ofString "0123456789") ⟨#[c]⟩
def encSign (c : Nat) : Bool := inText (Str.ofString "abcdefghijklmnopqrstuvwxyzABCDEFGHIJKLMNOPQRSTUVWXYZ") ⟨#[c]⟩ || isFig c || inText (Str.ofString "._-") ⟨#[c]⟩
def isVersion (V : Str) : Bool := !(Txt.slice V none (some 2) != Str.ofString "1.") && !(decide ((V.length : Int) < 3)) && (Txt.slice V (some 2) none).cps.toList.all isFig
def isEnc (V : Str) : Bool := !(V == Str.ofString "") && inText (Str.ofString "abcdefghijklmnopqrstuvwxyzABCDEFGHIJKLMNOPQRSTUVWXYZ") (Txt.item V 0) && V.cps.toList.all encSign
theorem each_snoc {g : Nat → Bool} {pre : List Nat} {n : Nat} (h : ∀ c ∈ pre, g c = true) (hn : g n = true) : ∀ c ∈ pre ++ [n], g c = true := by
  intro c hc
  rcases List.mem_append.mp hc with h1 | h1
  · exact h c h1
  · rw [List.mem_singleton.mp h1]; exact hn
theorem all_no {g : Nat → Bool} {l pre post : List Nat} {n : Nat} (h : l = pre ++ n :: post) (hn : g n = false) : l.all g = false := by
  rw [h]; simp [hn]
theorem all_yes {g : Nat → Bool} {l : List Nat} (h : ∀ c ∈ l, g c = true) : l.all g = true := List.all_eq_true.mpr h
theorem fig_no {n : Nat} (h : (Builtin.Str.occurrences (Str.ofString "0123456789") ⟨#[n]⟩ 0 (Str.ofString "0123456789").length 1).isEmpty = true) : isFig n = false := by
  unfold isFig inText; rw [h]; rfl
theorem fig_yes {n : Nat} (h : (Builtin.Str.occurrences (Str.ofString "0123456789") ⟨#[n]⟩ 0 (Str.ofString "0123456789").length 1).isEmpty = false) : isFig n = true := by
  unfold isFig inText; rw [h]; rfl
theorem ver_1 {V : Str} (h : (Txt.slice V none (some 2) != Str.ofString "1.") = true) : isVersion V = false := by unfold isVersion; rw [h]; rfl
theorem ver_2 {V : Str} (h : (V.length : Int) < 3) : isVersion V = false := by unfold isVersion; rw [decide_eq_true h]; simp
theorem ver_3 {V : Str} (h : (Txt.slice V (some 2) none).cps.toList.all isFig = false) : isVersion V = false := by unfold isVersion; rw [h]; simp
theorem ver_4 {V : Str} (h1 : (Txt.slice V none (some 2) != Str.ofString "1.") = false) (h2 : ¬ (V.length : Int) < 3) (h : (Txt.slice V (some 2) none).cps.toList.all isFig = true) : isVersion V = true := by
  unfold isVersion; rw [h, h1, decide_eq_false h2]; rfl
theorem enc_1 {V : Str} (h : (V == Str.ofString "") = true) : isEnc V = false := by unfold isEnc; rw [h]; rfl
theorem enc_2 {V : Str} (h : (Builtin.Str.occurrences (Str.ofString "abcdefghijklmnopqrstuvwxyzABCDEFGHIJKLMNOPQRSTUVWXYZ") (Txt.item V 0) 0 (Str.ofString "abcdefghijklmnopqrstuvwxyzABCDEFGHIJKLMNOPQRSTUVWXYZ").length 1).isEmpty = true) : isEnc V = false := by
  unfold isEnc inText; rw [h]; simp
theorem enc_3 {V : Str} (h : V.cps.toList.all encSign = false) : isEnc V = false := by unfold isEnc; rw [h]; simp
theorem enc_4 {V : Str} (h0 : (V == Str.ofString "") = false) (h : (Builtin.Str.occurrences (Str.ofString "abcdefghijklmnopqrstuvwxyzABCDEFGHIJKLMNOPQRSTUVWXYZ") (Txt.item V 0) 0 (Str.ofString "abcdefghijklmnopqrstuvwxyzABCDEFGHIJKLMNOPQRSTUVWXYZ").length 1).isEmpty = false)
    (h1 : V.cps.toList.all encSign = true) : isEnc V = true := by
  unfold isEnc inText; rw [h, h0, h1]; rfl
theorem enc_n0 {n : Nat} (h1 : (Builtin.Str.occurrences (Str.ofString "abcdefghijklmnopqrstuvwxyzABCDEFGHIJKLMNOPQRSTUVWXYZ") ⟨#[n]⟩ 0 (Str.ofString "abcdefghijklmnopqrstuvwxyzABCDEFGHIJKLMNOPQRSTUVWXYZ").length 1).isEmpty = true)
    (h2 : (Builtin.Str.occurrences (Str.ofString "0123456789") ⟨#[n]⟩ 0 (Str.ofString "0123456789").length 1).isEmpty = true) (h3 : (Builtin.Str.occurrences (Str.ofString "._-") ⟨#[n]⟩ 0 (Str.ofString "._-").length 1).isEmpty = true) : encSign n = false := by
  unfold encSign isFig inText; rw [h1, h2, h3]; rfl
theorem enc_n1 {n : Nat} (h1 : (Builtin.Str.occurrences (Str.ofString "abcdefghijklmnopqrstuvwxyzABCDEFGHIJKLMNOPQRSTUVWXYZ") ⟨#[n]⟩ 0 (Str.ofString "abcdefghijklmnopqrstuvwxyzABCDEFGHIJKLMNOPQRSTUVWXYZ").length 1).isEmpty = false) : encSign n = true := by
  unfold encSign isFig inText; rw [h1]; rfl
theorem enc_n2 {n : Nat} (h2 : (Builtin.Str.occurrences (Str.ofString "0123456789") ⟨#[n]⟩ 0 (Str.ofString "0123456789").length 1).isEmpty = false) : encSign n = true := by
  unfold encSign isFig inText; rw [h2]; simp
theorem enc_n3 {n : Nat} (h3 : (Builtin.Str.occurrences (Str.ofString "._-") ⟨#[n]⟩ 0 (Str.ofString "._-").length 1).isEmpty = false) : encSign n = true := by
  unfold encSign isFig inText; rw [h3]; simp
end Mine

-- Def6
open PySem PySem.W PyProof.Rows PySem.Calls
set_option Elab.async false
namespace Mine
theorem news_tl {h₀ h : Heap} {L : Addr} {p : Addr × Obj} {l : Led} (N : News h₀ L h (p :: l)) : News h₀ L h l := fun q hq => N q (.tail _ hq)
abbrev sOf (x : String) : Str := Str.ofString x
/-- behind a version, where one stands -/
@[irreducible] def verAt (T : Str) (k : Int) : Option Int :=
  if Txt.startswith3 T (sOf "version") k = true then
    match wordAt T (sOf "version") k with
    | none => none
    | some (v, b) => if isVersion v = true ∧ spEnd T b ≠ b then some (spEnd T b) else none
  else some k
@[irreducible] def endAt (T : Str) (k : Int) : Option Int :=
  match wordAt T (sOf "encoding") k with
  | none => none
  | some (e, c) => if isEnc e = true ∧ Txt.startswith3 T (sOf "?>") (spEnd T c) = true then some (spEnd T c + ((sOf "?>").length : Int)) else none
@[irreducible] def passHead (T : Str) (k : Int) : Option Int :=
  if Txt.startswith3 T (sOf "<?xml") k = true ∧ spEnd T (k + ((sOf "<?xml").length : Int)) ≠ k + ((sOf "<?xml").length : Int) then
    match verAt T (spEnd T (k + ((sOf "<?xml").length : Int))) with
    | none => none
    | some b => endAt T b
  else none
theorem verAt_none1 {T : Str} {k : Int} (h : Txt.startswith3 T (sOf "version") k = true) (h1 : wordAt T (sOf "version") k = none) : verAt T k = none := by unfold verAt; rw [if_pos h, h1]
theorem verAt_none2 {T : Str} {k b : Int} {v : Str} (h : Txt.startswith3 T (sOf "version") k = true) (h1 : wordAt T (sOf "version") k = some (v, b)) (h2 : isVersion v = false) : verAt T k = none := by
  unfold verAt; rw [if_pos h, h1]; simp [h2]
theorem verAt_none3 {T : Str} {k b : Int} {v : Str} (h : Txt.startswith3 T (sOf "version") k = true) (h1 : wordAt T (sOf "version") k = some (v, b)) (h2 : spEnd T b = b) : verAt T k = none := by
  unfold verAt; rw [if_pos h, h1]; simp [h2]
theorem verAt_some {T : Str} {k b : Int} {v : Str} (h : Txt.startswith3 T (sOf "version") k = true) (h1 : wordAt T (sOf "version") k = some (v, b)) (h2 : isVersion v = true) (h3 : spEnd T b ≠ b) : verAt T k = some (spEnd T b) := by
  unfold verAt; rw [if_pos h, h1]; simp [h2, h3]
theorem verAt_same {T : Str} {k : Int} (h : Txt.startswith3 T (sOf "version") k = false) : verAt T k = some k := by unfold verAt; rw [if_neg (by rw [h]; decide)]
theorem endAt_none1 {T : Str} {k : Int} (h : wordAt T (sOf "encoding") k = none) : endAt T k = none := by unfold endAt; rw [h]
theorem endAt_none2 {T : Str} {k c : Int} {e : Str} (h : wordAt T (sOf "encoding") k = some (e, c)) (h1 : isEnc e = false) : endAt T k = none := by unfold endAt; rw [h]; simp [h1]
theorem endAt_none3 {T : Str} {k c : Int} {e : Str} (h : wordAt T (sOf "encoding") k = some (e, c)) (h1 : Txt.startswith3 T (sOf "?>") (spEnd T c) = false) : endAt T k = none := by unfold endAt; rw [h]; simp [h1]
theorem endAt_some {T : Str} {k c : Int} {e : Str} (h : wordAt T (sOf "encoding") k = some (e, c)) (h1 : isEnc e = true) (h2 : Txt.startswith3 T (sOf "?>") (spEnd T c) = true) : endAt T k = some (spEnd T c + ((sOf "?>").length : Int)) := by
  unfold endAt; rw [h]; simp only [h1, h2, and_self, if_true]
theorem pass_no1 {T : Str} {k : Int} (h : Txt.startswith3 T (sOf "<?xml") k = false) : passHead T k = none := by unfold passHead; rw [if_neg (by rw [h]; simp)]
theorem pass_no2 {T : Str} {k : Int} (h : spEnd T (k + ((sOf "<?xml").length : Int)) = k + ((sOf "<?xml").length : Int)) : passHead T k = none := by unfold passHead; rw [if_neg (by simp [h])]
theorem pass_no3 {T : Str} {k : Int} (h : verAt T (spEnd T (k + ((sOf "<?xml").length : Int))) = none) : passHead T k = none := by unfold passHead; rw [h]; simp
theorem pass_on {T : Str} {k b : Int} {o : Option Int} (h : Txt.startswith3 T (sOf "<?xml") k = true) (h1 : spEnd T (k + ((sOf "<?xml").length : Int)) ≠ k + ((sOf "<?xml").length : Int)) (h2 : verAt T (spEnd T (k + ((sOf "<?xml").length : Int))) = some b) (h3 : endAt T b = o) : passHead T k = o := by
  unfold passHead; rw [if_pos ⟨h, h1⟩, h2]; exact h3
end Mine

-- Def7
open PySem PySem.W PyProof.Rows PySem.Calls
set_option Elab.async false
namespace Mine
/-- does the text begin with a head -/
@[irreducible] def isHead (T : Str) : Bool := !(Txt.slice T none (some ((5 : Nat) : Int)) != Str.ofString "<?xml") && inText (Str.ofString " \t\x0d\n") (Txt.slice T (some ((5 : Nat) : Int)) (some (((5 : Nat) : Int) + 1))) && !decide ((T.length : Int) = ((5 : Nat) : Int))
@[irreducible] def bare (T : Str) : Option Str := if isHead T = true then (match passHead T 0 with | none => none | some b => some (Txt.slice T (some b) none)) else some T
theorem head_no1 {T : Str} (h : (Txt.slice T none (some ((5 : Nat) : Int)) != Str.ofString "<?xml") = true) : isHead T = false := by unfold isHead; rw [h]; rfl
theorem head_no2 {T : Str} (h : (Builtin.Str.occurrences (Str.ofString " \t\x0d\n") (Txt.slice T (some ((5 : Nat) : Int)) (some (((5 : Nat) : Int) + 1))) 0 (Str.ofString " \t\x0d\n").length 1).isEmpty = true) : isHead T = false := by
  unfold isHead inText; rw [h]; simp
theorem head_no3 {T : Str} (h : (T.length : Int) = ((5 : Nat) : Int)) : isHead T = false := by unfold isHead; rw [decide_eq_true h]; simp
theorem head_yes {T : Str} (h1 : (Txt.slice T none (some ((5 : Nat) : Int)) != Str.ofString "<?xml") = false)
    (h2 : (Builtin.Str.occurrences (Str.ofString " \t\x0d\n") (Txt.slice T (some ((5 : Nat) : Int)) (some (((5 : Nat) : Int) + 1))) 0 (Str.ofString " \t\x0d\n").length 1).isEmpty = false) (h3 : (T.length : Int) ≠ ((5 : Nat) : Int)) : isHead T = true := by
  unfold isHead inText; rw [h1, h2, decide_eq_false h3]; rfl
theorem bare_same {T : Str} (h : isHead T = false) : bare T = some T := by unfold bare; rw [h]; rfl
theorem bare_cut {T : Str} {b : Int} (h : isHead T = true) (h1 : passHead T 0 = some b) : bare T = some (Txt.slice T (some b) none) := by unfold bare; rw [if_pos h, h1]
theorem bare_none {T : Str} (h : isHead T = true) (h1 : passHead T 0 = none) : bare T = none := by unfold bare; rw [if_pos h, h1]
end Mine

-- W3
open PySem PySem.W PyProof.Rows PySem.Calls
set_option Elab.async false
namespace Mine
section
variable {prog : Program} {w : World} {A : Around} {E : Value → Shared → Prop} {s : Shared} {env : Env} {h₀ : Heap} {x : PySem.Str} {body : List Stmt} {Q : Flow → Shared → Prop}
theorem range_each {r : Addr} {a₀ b₀ : Int} {t₀ u₀ v₀ : Tok} {n : Nat} {m₀ : PySem.Str → Option Value} {news : Led} (P : Nat → Prop)
    (hh : A.handled = none) (hr : IsRange s.heap r a₀ b₀ 1 t₀ u₀ v₀) (hsmall : Builtin.Range.small a₀ b₀ 1 = true) (hn : Builtin.Range.rangeSize a₀ b₀ 1 = (n : Int)) (F : Fr h₀ env.locals s.heap m₀) (N : News h₀ env.locals s.heap news) (hp : P 0)
    (turn : ∀ (i : Nat) t h tk own, i < n → P i →
      Fr h₀ env.locals h (fun y => if y = x then some (.int (a₀ + (i : Int)) t) else m₀ y) → News h₀ env.locals h (news ++ own) →
      wpAny (model prog w) A (execs body env) (SignQ h₀ env.locals { s with heap := h, toks := tk } x m₀ (news ++ own) (P (i + 1)) Q) E { s with heap := h, toks := tk })
    (done : ∀ (o : Option Value) h tk, P n → Fr h₀ env.locals h (fun y => if y = x then o else m₀ y) → News h₀ env.locals h news → Q .next { s with heap := h, toks := tk }) :
    wpAny (model prog w) A (pyIter (.ref r)) (fun it s₂ => LoopAtV prog w A h₀ env x body Q E it s₂) E s := by
  refine kst_range (σ := Unit) (fun _ => news) (fun _ => []) (fun _ => True) [] (fun l _ => P l.length) () hh hr hsmall hn F N trivial (fun p hp => nomatch hp) (by simpa using hp) ?_ ?_
  · intro c pre k t u h tk own e hlt _ _ hp' F' N'
    subst e
    have T := turn pre.length t h tk own hlt hp' F' N'
    refine wpAny_mono T (fun f s₃ q => ?_) fun _ _ x => x
    have key : ∀ (h' : Heap) (tk' : Nat) (mm : PySem.Str → Option Value), s₃ = { s with heap := h', toks := tk' } → Fr h₀ env.locals h' mm → (∀ y, y ≠ x → mm y = m₀ y) → News h₀ env.locals h' (news ++ own) → P (pre.length + 1) →
        InvEndN h₀ env.locals (KstS (fun _ : Unit => news) (fun _ => []) (fun _ => True) x [] m₀ (fun l _ => P l.length) (pre ++ [a₀ + (pre.length : Int)])) own (news.map (·.1)) { s with heap := h, toks := tk } s₃ := by
      intro h' tk' mm e1 F1 hm N1 p1
      refine ⟨h', tk', mm, news ++ own, news, e1, F1, N1, fun p hp => List.mem_append_left _ hp, fun p hp => List.mem_append_right _ hp, rfl, (), rfl, trivial, (fun p hp => nomatch hp), fun z hz _ _ => hm z hz, ?_⟩
      simpa using p1
    cases f with
    | next => obtain ⟨h', tk', mm, e1, F1, hm, N1, p1⟩ := q; exact key h' tk' mm e1 F1 hm N1 p1
    | cont => obtain ⟨h', tk', mm, e1, F1, hm, N1, p1⟩ := q; exact key h' tk' mm e1 F1 hm N1 p1
    | brk => exact q
    | ret v => exact q
  · intro c u h tk _ hp' F' N'
    have hp2 : P n := by
      have hl : (rangeKs a₀ n).length = n := rangeKs_length a₀ n
      rw [hl] at hp'; exact hp'
    exact done (u x) h tk hp2 (by
      have e : (fun y => if y = x then u x else m₀ y) = (fun y => if y = x then u y else m₀ y) := by
        funext y; by_cases hy : y = x
        · simp [hy]
        · simp [hy]
      rw [e]; exact F') N'
end
section
variable {prog : Program} {w : World} {A₀ A : Around} {s : Shared} {base h₀ : Heap} {env : Env} {outer : List Env} {L f : Addr} {m : Str → Option Value} {rest : List (Addr × Obj)} {K : Frag} {R : Result → Shared → Prop}
  {p : Program} {loose : List Str} {mean : ExcName → Option Value} {mg mb : Str → Option Value}
  {name qual : Str} {params : Arguments} {body : List Stmt} {scope : Scope} {dV kV doc pm cdv ct oc : Value} {an od : Option Addr} {osl : Array (Option Value)} {args : Args} {binds : List (Str × Value)}
/-- a call of a def that touches nothing of the ledger -/
theorem enterF (B : Below A₀ base outer h₀) (F : Fr h₀ L s.heap m) (X₀ : K.In h₀) (N : News h₀ L s.heap rest) (T : Top p loose mean mg mb h₀)
    (hA : A.frames = some (env :: outer)) (hf : env.frame = some L) (hke : env.scope.kind = .function)
    (ho : K.lookup f = some ⟨oc, od, .func (fnOf name qual params body scope dV kV doc pm an cdv ct), osl⟩) (hcd : codeIn K cdv qual = true) (hroom : A.depth < recursionLimit)
    (hbind : BindsTo s (fnOf name qual params body scope dV kV doc pm an cdv ct) args binds) (hloc : ∀ y ∈ binds, scope.names.lookup y.1 = some .local)
    (h : ∀ g L' h₁, Fr h₀ L g m → Fr g L' h₁ (fun y => binds.reverse.lookup y) → News g L' h₁ [] → Below A base (env :: outer) g → K.In g → Top p loose mean mg mb g →
      wpAny (model prog w) (A.deeper (envOf qual scope L' f cdv)) (execs body (envOf qual scope L' f cdv))
        (fun fl s' => LeaveK h₀ L m g (fun r s' => News h₀ L s'.heap rest → R r s') (match fl with | .ret v => v | _ => .none) s')
        (fun e s' => wpAny (model prog w) (A.deeper (envOf qual scope L' f cdv)) (leaving (envOf qual scope L' f cdv) e) (fun _ s'' => R (.error e) s'') (fun e' s'' => R (.error e') s'') s')
        { s with heap := h₁, toks := s.toks + binds.length })
    (hco : scope.isCoroutine = false) (hgen : scope.isGenerator = false) (hk : scope.kind = .function)
    (hcell : ∀ x ∈ scope.names, x.2 ≠ .cell) : codeAny (model prog w) A (.call (.ref f) args) R s := by
  have X := X₀.keeps F.keep
  refine codeAny_call_def (fd := fnOf name qual params body scope dV kV doc pm an cdv ct) (body := body) (binds := binds) hroom (X _ _ ho) rfl (T.nolimit.keeps F.keep) (codeRec_of X hcd) rfl hbind hcell hloc (fun h₁ hns hk₁ => ?_) hco hgen hk
  obtain ⟨FG, BG, st, fin⟩ := groundX (R := R) B F (news := []) (fun q hq => nomatch hq) hA hf hke
  refine wpAny_mono (h _ s.heap.objs.size h₁ FG ⟨hns, fun b o e => hk₁ b o (of_hideAll _ e), Nat.le_of_eq (hideAll_size _ _)⟩
    (fun q hq => nomatch hq) BG (X₀.keeps st) (T.keeps st)) (fun fl s' hl => ?_) fun _ _ y => y
  obtain ⟨L', m', news', F', N', k⟩ := hl
  exact fin _ _ ⟨L', m', news', F', N', fun a b => k a b fun q hq => ⟨F'.keep _ _ (hideAll_get _ (N q hq).1 (fun hm => nomatch hm)), (N q hq).2⟩⟩
end
/-- is a sign let -/
@[irreducible] def charOk (n : Nat) : Bool := if (n : Int) < 32 then inText (Str.ofString " \t\n\x0d") ⟨#[n]⟩ else decide ((n : Int) ≤ 55295) || (decide (57344 ≤ (n : Int)) && decide ((n : Int) ≤ 65533)) || (decide (65536 ≤ (n : Int)) && decide ((n : Int) ≤ 1114111))
theorem charOk_sp {n : Nat} {b : Bool} (h : (n : Int) < 32) (hb : (!(Builtin.Str.occurrences (Str.ofString " \t\n\x0d") ⟨#[n]⟩ 0 (Str.ofString " \t\n\x0d").length 1).isEmpty) = b) : charOk n = b := by
  unfold charOk inText; rw [if_pos h, hb]
theorem charOk_1 {n : Nat} (h : ¬ (n : Int) < 32) (h1 : (n : Int) ≤ 55295) : charOk n = true := by unfold charOk; rw [if_neg h]; simp only [Bool.or_eq_true, Bool.and_eq_true, decide_eq_true_eq]; omega
theorem charOk_2 {n : Nat} (h : ¬ (n : Int) < 32) (h1 : ¬ (n : Int) ≤ 55295) (h2 : (n : Int) < 57344) : charOk n = false := by unfold charOk; rw [if_neg h, Bool.eq_false_iff]; intro q; simp only [Bool.or_eq_true, Bool.and_eq_true, decide_eq_true_eq] at q; omega
theorem charOk_3 {n : Nat} (h : ¬ (n : Int) < 32) (h1 : ¬ (n : Int) < 57344) (h2 : (n : Int) ≤ 65533) : charOk n = true := by unfold charOk; rw [if_neg h]; simp only [Bool.or_eq_true, Bool.and_eq_true, decide_eq_true_eq]; omega
theorem charOk_4 {n : Nat} (h : ¬ (n : Int) < 32) (h1 : ¬ (n : Int) ≤ 65533) (h2 : (n : Int) < 65536) : charOk n = false := by unfold charOk; rw [if_neg h, Bool.eq_false_iff]; intro q; simp only [Bool.or_eq_true, Bool.and_eq_true, decide_eq_true_eq] at q; omega
theorem charOk_5 {n : Nat} (h : ¬ (n : Int) < 32) (h1 : ¬ (n : Int) < 65536) (h2 : (n : Int) ≤ 1114111) : charOk n = true := by unfold charOk; rw [if_neg h]; simp only [Bool.or_eq_true, Bool.and_eq_true, decide_eq_true_eq]; omega
theorem charOk_6 {n : Nat} (h : ¬ (n : Int) < 32) (h1 : ¬ (n : Int) ≤ 1114111) : charOk n = false := by unfold charOk; rw [if_neg h, Bool.eq_false_iff]; intro q; simp only [Bool.or_eq_true, Bool.and_eq_true, decide_eq_true_eq] at q; omega
/-- is the sign at a place let -/
def okAt (V : Str) (i : Nat) : Bool := charOk ((Txt.charAt V (0 + (i : Int))).getD 0)
@[irreducible] def firstOk (V : Str) : Bool := V.cps.toList.all charOk
def OkTo (V : Str) (i : Nat) : Prop := ∀ j : Nat, j < i → okAt V j = true
theorem okTo_0 (V : Str) : OkTo V 0 := fun j hj => absurd hj (Nat.not_lt_zero _)
theorem okAt_of {V : Str} {i : Nat} {b : Bool} (h : charOk ((Txt.charAt V (0 + (i : Int))).getD 0) = b) : okAt V i = b := h
theorem okAt_eq {V : Str} {i : Nat} (h : i < V.length) : okAt V i = charOk (V.cps.toList[i]'(by simpa [Str.length] using h)) := by
  unfold okAt Txt.charAt
  have hs : i < V.cps.size := h
  rw [Int.zero_add, StrLaws.seqIndex_nonneg (by omega) (by omega)]
  simp [hs]
theorem first_yes {V : Str} (h : OkTo V V.length) : firstOk V = true := by
  unfold firstOk
  rw [List.all_eq_true]
  intro c hc
  obtain ⟨i, hi, rfl⟩ := List.mem_iff_getElem.mp hc
  have hi' : i < V.length := by simpa [Str.length] using hi
  rw [← okAt_eq hi']; exact h i hi'
theorem first_no {V : Str} {i : Nat} (hi : i < V.length) (h : okAt V i = false) : firstOk V = false := by
  rw [okAt_eq hi] at h
  unfold firstOk
  rw [List.all_eq_false]
  exact ⟨V.cps.toList[i]'(by simpa [Str.length] using hi), List.getElem_mem _, by rw [h]; decide⟩
theorem first_no2 {V : Str} {i : Nat} {b : Bool} (h : charOk ((Txt.charAt V (0 + (i : Int))).getD 0) = b) (hb : b = false) (hi : i < V.length) : firstOk V = false := first_no hi (h.trans hb)
theorem ok_snoc {V : Str} {i : Nat} (h : OkTo V i) (hn : okAt V i = true) : OkTo V (i + 1) := by
  intro j hj
  by_cases e : j = i
  · rw [e]; exact hn
  · exact h j (by omega)
end Mine

-- W4
open PySem PySem.W PyProof.Rows PySem.Calls
set_option Elab.async false
namespace Mine
theorem split_ok {sep V y : Str} {n : Nat} (hy : 1 ≤ y.length) (hs : sep.length ≤ 4) (hV : V.length ≤ n) (hn : n ≤ 200000) : JoinOk sep (Txt.split V y) = true :=
  joinOk_of_weight (Nat.le_trans (split_weight V y hy) (by omega)) (by omega)
theorem split_len {sep V y : Str} {n : Nat} (hy : 1 ≤ y.length) (hs : sep.length ≤ 4) (hV : V.length ≤ n) : (Txt.join sep (Txt.split V y)).length ≤ 4 * (n + 1) :=
  Nat.le_trans (len_join_le (n := V.length) (split_weight V y hy) hs) (by omega)
/-- the ends of lines, made plain -/
abbrev ends1 (V : Str) : Str := Txt.join (Str.ofString "\n") (Txt.split V (Str.ofString "\x0d\n"))
@[irreducible] def plainEnds (V : Str) : Str := Txt.join (Str.ofString "\n") (Txt.split (ends1 V) (Str.ofString "\x0d"))
theorem plainEnds_len {V : Str} (h : V.length ≤ 10001) : (plainEnds V).length ≤ 160036 := by
  unfold plainEnds
  exact Nat.le_trans (split_len (n := 40008) (by decide) (by decide) (Nat.le_trans (split_len (n := 10001) (by decide) (by decide) h) (by decide))) (by decide)
theorem plainEnds_eq (V : Str) : Txt.join (Str.ofString "\n") (Txt.split (ends1 V) (Str.ofString "\x0d")) = plainEnds V := by unfold plainEnds; rfl
theorem ends_ok1 {V : Str} (h : V.length ≤ 10001) : JoinOk (Str.ofString "\n") (Txt.split V (Str.ofString "\x0d\n")) = true := split_ok (n := 10001) (by decide) (by decide) h (by decide)
theorem ends_len1 {V : Str} (h : V.length ≤ 10001) : (Txt.join (Str.ofString "\n") (Txt.split V (Str.ofString "\x0d\n"))).length ≤ 40008 := split_len (n := 10001) (by decide) (by decide) h
theorem ends_ok2 {V : Str} (h : V.length ≤ 40008) : JoinOk (Str.ofString "\n") (Txt.split V (Str.ofString "\x0d")) = true := split_ok (n := 40008) (by decide) (by decide) h (by decide)
end Mine

-- W5
open PySem PySem.W PyProof.Rows PySem.Calls
set_option Elab.async false
namespace Mine
/-- without the order's mark -/
@[irreducible] def unmark (V : Str) : Str := if (Txt.slice V none (some 1) == Str.ofString "\ufeff") = true then Txt.slice V (some 1) none else V
theorem unmark_yes {V : Str} (h : (Txt.slice V none (some 1) == Str.ofString "\ufeff") = true) : unmark V = Txt.slice V (some 1) none := by unfold unmark; exact if_pos h
theorem unmark_no {V : Str} (h : (Txt.slice V none (some 1) == Str.ofString "\ufeff") = false) : unmark V = V := by unfold unmark; exact if_neg (by rw [h]; decide)
/-- an outer text, made plain -/
@[irreducible] def outerOf (V : Str) : Option Str := match bare (unmark V) with | none => none | some b => if firstOk (plainEnds b) = true then some (plainEnds b) else none
theorem outer_none1 {V U : Str} (hu : unmark V = U) (h : bare U = none) : outerOf V = none := by unfold outerOf; rw [hu, h]
theorem outer_none2 {V U b : Str} (hu : unmark V = U) (h : bare U = some b) (h1 : firstOk (plainEnds b) = false) : outerOf V = none := by unfold outerOf; rw [hu, h]; simp [h1]
theorem outer_some {V U b : Str} (hu : unmark V = U) (h : bare U = some b) (h1 : firstOk (plainEnds b) = true) : outerOf V = some (plainEnds b) := by unfold outerOf; rw [hu, h]; simp [h1]
end Mine

-- W6
open PySem PySem.W PyProof.Rows PySem.Calls
set_option Elab.async false
namespace Mine
section
variable {prog : Program} {w : World} {A : Around} {E : Value → Shared → Prop} {s : Shared} {h₀ : Heap} {L : Addr} {news : List (Addr × Obj)} {Q : Value → Shared → Prop}
/-- some item of a list on the ledger -/
theorem s_pick {value slice : Expr} {l : Addr} {items : List Value} {n : Nat} {k : Int} {u : Tok} (N : News h₀ L s.heap news) (hm : (l, W.listOf items.toArray n) ∈ news) (h0 : 0 ≤ k) (hhi : k < 2 ^ 63) (hk : k < (items.length : Int)) (h : ∀ v ∈ items, Q v s)
    (hs : subscripted slice false (.ref l) (.int k u) = operate [.ref l, .int k u] (getItem (.ref l) (.int k u)) := by with_unfolding_all rfl) :
    wpAny (model prog w) A (subscriptTail value slice (.ref l) (.int k u)) Q E s :=
  have hi : k.toNat < items.length := by omega
  s_item N hm h0 hhi (List.getElem?_eq_getElem hi) (h _ (List.getElem_mem hi)) hs
theorem s_len {l : Addr} {items : List Value} {n : Nat} (N : News h₀ L s.heap news) (hm : (l, W.listOf items.toArray n) ∈ news) (hf : items.length ≤ 1000000) (h : ∀ t k, Q (.int items.length t) { s with toks := k }) :
    wpAny (model prog w) A (call (.builtin "len") [.ref l]) Q E s := by
  have hl : s.heap.IsList l items.toArray := ⟨_, N.get hm, rfl, n, rfl⟩
  refine len_list hl (by simp; omega) ?_
  simpa using h _ _
end
section
variable {prog : Program} {w : World} {A₀ A : Around} {s : Shared} {base h₀ : Heap} {env : Env} {outer : List Env} {L f : Addr} {m : Str → Option Value} {rest : List (Addr × Obj)} {K : Frag} {R : Result → Shared → Prop}
  {p : Program} {loose : List Str} {mean : ExcName → Option Value} {mg mb : Str → Option Value}
  {name qual : Str} {params : Arguments} {body : List Stmt} {scope : Scope} {dV kV doc pm cdv ct oc : Value} {an od : Option Addr} {osl : Array (Option Value)} {args : Args} {binds : List (Str × Value)}
/-- a call of a def that touches a part of the ledger alone -/
theorem enterG {keep : List (Addr × Obj)} (B : Below A₀ base outer h₀) (F : Fr h₀ L s.heap m) (X₀ : K.In h₀) (N₁ : News h₀ L s.heap keep) (N : News h₀ L s.heap rest) (hoff : ∀ q ∈ rest, q.1 ∉ keep.map (·.1)) (T : Top p loose mean mg mb h₀)
    (hA : A.frames = some (env :: outer)) (hf : env.frame = some L) (hke : env.scope.kind = .function)
    (ho : K.lookup f = some ⟨oc, od, .func (fnOf name qual params body scope dV kV doc pm an cdv ct), osl⟩) (hcd : codeIn K cdv qual = true) (hroom : A.depth < recursionLimit)
    (hbind : BindsTo s (fnOf name qual params body scope dV kV doc pm an cdv ct) args binds) (hloc : ∀ y ∈ binds, scope.names.lookup y.1 = some .local)
    (h : ∀ g L' h₁, Fr h₀ L g m → Fr g L' h₁ (fun y => binds.reverse.lookup y) → News g L' h₁ keep → Below A base (env :: outer) g → K.In g → Top p loose mean mg mb g →
      wpAny (model prog w) (A.deeper (envOf qual scope L' f cdv)) (execs body (envOf qual scope L' f cdv))
        (fun fl s' => LeaveK h₀ L m g (fun r s' => News h₀ L s'.heap rest → R r s') (match fl with | .ret v => v | _ => .none) s')
        (fun e s' => wpAny (model prog w) (A.deeper (envOf qual scope L' f cdv)) (leaving (envOf qual scope L' f cdv) e) (fun _ s'' => R (.error e) s'') (fun e' s'' => R (.error e') s'') s')
        { s with heap := h₁, toks := s.toks + binds.length })
    (hco : scope.isCoroutine = false) (hgen : scope.isGenerator = false) (hk : scope.kind = .function)
    (hcell : ∀ x ∈ scope.names, x.2 ≠ .cell) : codeAny (model prog w) A (.call (.ref f) args) R s := by
  have X := X₀.keeps F.keep
  refine codeAny_call_def (fd := fnOf name qual params body scope dV kV doc pm an cdv ct) (body := body) (binds := binds) hroom (X _ _ ho) rfl (T.nolimit.keeps F.keep) (codeRec_of X hcd) rfl hbind hcell hloc (fun h₁ hns hk₁ => ?_) hco hgen hk
  obtain ⟨FG, BG, st, fin⟩ := groundX (R := R) B F N₁ hA hf hke
  refine wpAny_mono (h _ s.heap.objs.size h₁ FG ⟨hns, fun b o e => hk₁ b o (of_hideAll _ e), Nat.le_of_eq (hideAll_size _ _)⟩
    (fun q hq => ⟨hk₁ _ _ (N₁ q hq).1, Nat.ne_of_lt (Heap.lt_size (N₁ q hq).1), hideAll_none _ (List.mem_map_of_mem hq)⟩) BG (X₀.keeps st) (T.keeps st)) (fun fl s' hl => ?_) fun _ _ y => y
  obtain ⟨L', m', news', F', N', k⟩ := hl
  exact fin _ _ ⟨L', m', news', F', N', fun a b => k a b fun q hq => ⟨F'.keep _ _ (hideAll_get _ (N q hq).1 (hoff q hq)), (N q hq).2⟩⟩
end
theorem news_app {h₀ h : Heap} {L : Addr} {a b : Led} (N : News h₀ L h a) (M : News h₀ L h b) : News h₀ L h (a ++ b) := fun p hp => (List.mem_append.mp hp).elim (N p) (M p)
/-- one entry of the ledger, ahead; the others as they were, but for it -/
theorem news_dup {h₀ h : Heap} {L : Addr} {a : Led} {p : Addr × Obj} (N : News h₀ L h a) (hp : p ∈ a) : News h₀ L h (p :: a) := fun q hq => (List.mem_cons.mp hq).elim (fun e => e ▸ N p hp) (N q)
theorem news_hd {h₀ h : Heap} {L : Addr} {a b : Led} (N : News h₀ L h (a ++ b)) : News h₀ L h a := fun p hp => N p (List.mem_append_left _ hp)
theorem news_bk {h₀ h : Heap} {L : Addr} {a b : Led} (N : News h₀ L h (a ++ b)) : News h₀ L h b := fun p hp => N p (List.mem_append_right _ hp)
end Mine

-- W7
open PySem PySem.W PyProof.Rows PySem.Calls
set_option Elab.async false
namespace Mine
/-- a goal that the walk leaves standing -/
def Held (p : Prop) : Prop := p
theorem held {p : Prop} (h : Held p) : p := h
theorem held' {p : Prop} (h : p) : Held p := h
section
variable {prog : Program} {w : World} {A : Around} {E : Value → Shared → Prop} {s : Shared} {h₀ : Heap} {L : Addr} {m : Str → Option Value} {env : Env}
/-- the turns of a comprehension by what holds of its items so far -/
theorem rest_inv {elt : Expr} {x : Str} {scope : Scope} {cl : List (Str × Addr)} {S : Led → Prop} {P : Nat → Value → Prop} {Fin : List Value → Led → Prop} (J : Nat → List Value → Led → Prop) (n : Nat)
    (hstep : ∀ i ys news, i < n → J i ys news → ∀ v I oI C oC D m₂ h tk (E' : Value → Shared → Prop), P i v → LCg.NsObj oC m₂ → m₂ x = some v → Fr h₀ L h m → News h₀ L h ((I, oI) :: (C, oC) :: (D, LCg.lst ys) :: news) → LCg.Off3 I C D news → ((@Ne Nat I C) ∧ (@Ne Nat I D) ∧ (@Ne Nat C D)) →
      wpAny (model prog w) A (eval elt (compEnvC scope cl C env)) (LCg.CompEnd h₀ L m { s with heap := h, toks := tk } I oI C oC D (LCg.lst ys) S (fun y news' => J (i + 1) (ys ++ [y]) news')) E' { s with heap := h, toks := tk })
    (hfin : ∀ ys news, J n ys news → Fin ys news) : ∀ k i ys news, i + k = n → J i ys news → LCg.CompRest prog w A h₀ L m env elt x scope cl s S P Fin k i ys news
  | 0, i, ys, news, e, j => LCg.CompRest.zero (hfin ys news (by rw [← e]; exact j))
  | k + 1, i, ys, news, e, j => LCg.CompRest.succ fun v I oI C oC D m₂ h tk E' hP hn hx F N o3 ne =>
      wpAny_mono (hstep i ys news (by omega) j v I oI C oC D m₂ h tk E' hP hn hx F N o3 ne) (fun y s₂ q => by
        obtain ⟨h', tk', news', e1, F', N', o', S', j'⟩ := q
        exact ⟨h', tk', news', e1, F', N', o', S', rest_inv J n hstep hfin k (i + 1) (ys ++ [y]) news' (by omega) j'⟩) fun _ _ z => z
end
end Mine

-- Def8
open PySem PySem.W PyProof.Rows PySem.Calls
set_option Elab.async false
namespace Mine
/-- what a drawn word is -/
def Told (W : Str) (rs ws : List Str) (t : Str) (r : Bool) : Prop :=
  ∃ gap ∈ [sOf "", sOf " ", sOf "\n"], ∃ q ∈ [sOf "'", sOf "\""], ∃ v b, ((v ∈ rs ∧ b = true) ∨ (v ∈ ws ∧ b = false)) ∧
    ((t = W ++ gap ++ sOf "=" ++ gap ++ q ++ v ++ q ∧ r = b) ∨ (t = W ++ gap ++ sOf "=" ++ gap ++ q ++ v ++ sOf "" ∧ r = false))
theorem told_a {W gap q v : Str} {rs ws : List Str} {b : Bool} (h1 : gap ∈ [sOf "", sOf " ", sOf "\n"]) (h2 : q ∈ [sOf "'", sOf "\""]) (h3 : (v ∈ rs ∧ b = true) ∨ (v ∈ ws ∧ b = false)) : Told W rs ws (W ++ gap ++ sOf "=" ++ gap ++ q ++ v ++ q) b := ⟨gap, h1, q, h2, v, b, h3, .inl ⟨rfl, rfl⟩⟩
theorem told_b {W gap q v : Str} {rs ws : List Str} {b : Bool} (h1 : gap ∈ [sOf "", sOf " ", sOf "\n"]) (h2 : q ∈ [sOf "'", sOf "\""]) (h3 : (v ∈ rs ∧ b = true) ∨ (v ∈ ws ∧ b = false)) : Told W rs ws (W ++ gap ++ sOf "=" ++ gap ++ q ++ v ++ sOf "") false := ⟨gap, h1, q, h2, v, b, h3, .inr ⟨rfl, rfl⟩⟩
abbrev rsV : List Str := [sOf "1.0", sOf "1.1", sOf "1.23"]
abbrev wsV : List Str := [sOf "1.", sOf "2.0", sOf "1.a", sOf "", sOf "10"]
abbrev rsE : List Str := [sOf "utf-8", sOf "a", sOf "A.b_9-"]
abbrev wsE : List Str := [sOf "", sOf "8utf", sOf "a b", sOf "-a", sOf "u\u00e9"]
abbrev endsH : List Str := [sOf "?>", sOf "?>", sOf " ?>", sOf "\n?>", sOf " >", sOf "? >", sOf " x='1'?>"]
abbrev endOk (e : Str) : Bool := Txt.stripChars e (sOf " \n") == sOf "?>"
/-- what a drawn head is -/
def HeadOf (t : Str) (r : Bool) : Prop :=
  ∃ g0 ∈ [sOf "", sOf " ", sOf "\n\t"], ∃ t1 r1, ((t1 = g0 ∧ r1 = true) ∨ ∃ told tr gap, Told (sOf "version") rsV wsV told tr ∧ gap ∈ [sOf " ", sOf " ", sOf "\n", sOf ""] ∧ t1 = g0 ++ told ++ gap ∧ r1 = (tr && (gap != sOf ""))) ∧
    ∃ t2 r2, ((t2 = sOf "" ∧ r2 = false) ∨ Told (sOf "encoding") rsE wsE t2 r2) ∧ ∃ e ∈ endsH, t = t1 ++ t2 ++ e ∧ r = (r1 && r2 && endOk e)
abbrev g0s : List Str := [sOf "", sOf " ", sOf "\n\t"]
abbrev gaps2 : List Str := [sOf " ", sOf " ", sOf "\n", sOf ""]
theorem hd1t {g0 t2 e : Str} {r2 : Bool} (h0 : g0 ∈ g0s) (h2 : Told (sOf "encoding") rsE wsE t2 r2) (he : e ∈ endsH) (e2 : r2 = true) : HeadOf (g0 ++ t2 ++ e) (endOk e) :=
  ⟨g0, h0, g0, true, .inl ⟨rfl, rfl⟩, t2, r2, .inr h2, e, he, rfl, by rw [e2]; simp⟩
theorem hd1f {b : Bool} {g0 t2 e : Str} {r2 : Bool} (h0 : g0 ∈ g0s) (h2 : Told (sOf "encoding") rsE wsE t2 r2) (he : e ∈ endsH) (e2 : r2 = false) (hb : b = false) : HeadOf (g0 ++ t2 ++ e) b := by
  subst hb; exact ⟨g0, h0, g0, true, .inl ⟨rfl, rfl⟩, t2, r2, .inr h2, e, he, rfl, by rw [e2]; simp⟩
theorem hd2f {b : Bool} {g0 e : Str} (h0 : g0 ∈ g0s) (he : e ∈ endsH) (hb : b = false) : HeadOf (g0 ++ sOf "" ++ e) b := by
  subst hb; exact ⟨g0, h0, g0, true, .inl ⟨rfl, rfl⟩, sOf "", false, .inl ⟨rfl, rfl⟩, e, he, rfl, by simp⟩
theorem hd3t {g0 t1 gap t2 e : Str} {r1 r2 : Bool} (h0 : g0 ∈ g0s) (h1 : Told (sOf "version") rsV wsV t1 r1) (hg : gap ∈ gaps2) (h2 : Told (sOf "encoding") rsE wsE t2 r2) (he : e ∈ endsH)
    (e1 : r1 = true) (eg : (gap != sOf "") = true) (e2 : r2 = true) : HeadOf (g0 ++ t1 ++ gap ++ t2 ++ e) (endOk e) :=
  ⟨g0, h0, g0 ++ t1 ++ gap, r1 && (gap != sOf ""), .inr ⟨t1, r1, gap, h1, hg, rfl, rfl⟩, t2, r2, .inr h2, e, he, rfl, by rw [e1, eg, e2]; simp⟩
theorem hd3f {b : Bool} {g0 t1 gap t2 e : Str} {r1 r2 : Bool} (h0 : g0 ∈ g0s) (h1 : Told (sOf "version") rsV wsV t1 r1) (hg : gap ∈ gaps2) (h2 : Told (sOf "encoding") rsE wsE t2 r2) (he : e ∈ endsH)
    (ef : r1 = false ∨ (gap != sOf "") = false ∨ r2 = false) (hb : b = false) : HeadOf (g0 ++ t1 ++ gap ++ t2 ++ e) b := by
  subst hb; exact ⟨g0, h0, g0 ++ t1 ++ gap, r1 && (gap != sOf ""), .inr ⟨t1, r1, gap, h1, hg, rfl, rfl⟩, t2, r2, .inr h2, e, he, rfl, by rcases ef with h | h | h <;> rw [h] <;> simp⟩
theorem hd4f {b : Bool} {g0 t1 gap e : Str} {r1 : Bool} (h0 : g0 ∈ g0s) (h1 : Told (sOf "version") rsV wsV t1 r1) (hg : gap ∈ gaps2) (he : e ∈ endsH) (hb : b = false) : HeadOf (g0 ++ t1 ++ gap ++ sOf "" ++ e) b := by
  subst hb; exact ⟨g0, h0, g0 ++ t1 ++ gap, r1 && (gap != sOf ""), .inr ⟨t1, r1, gap, h1, hg, rfl, rfl⟩, sOf "", false, .inl ⟨rfl, rfl⟩, e, he, rfl, by simp⟩
end Mine

-- Def9
open PySem PySem.W PyProof.Rows PySem.Calls
set_option Elab.async false
namespace Mine
def strV : Value → Bool | .str _ _ => true | _ => false
def strsOf : List Value → List Str | [] => [] | .str w _ :: r => w :: strsOf r | _ :: r => strsOf r
theorem strs_mem : ∀ {vs : List Value} {v : Value}, v ∈ vs → vs.all strV = true → ∃ w tw, v = .str w tw ∧ w ∈ strsOf vs
  | u :: r, v, hv, ha => by
    rw [List.all_cons, Bool.and_eq_true] at ha
    rcases List.mem_cons.mp hv with rfl | hv
    · cases v with
      | str w tw => exact ⟨w, tw, rfl, .head _⟩
      | _ => exact absurd ha.1 (by simp [strV])
    · obtain ⟨w, tw, e, hm⟩ := strs_mem hv ha.2
      refine ⟨w, tw, e, ?_⟩
      cases u <;> first | exact .tail _ hm | exact hm
theorem len_of_all {ws : List Str} {k : Nat} {w : Str} (h : ws.all (fun w => decide (w.length ≤ k)) = true) (hw : w ∈ ws) : w.length ≤ k := by
  have := List.all_eq_true.mp h w hw
  simpa using this
theorem news_two {h₀ h : Heap} {L : Addr} {p q : Addr × Obj} {l : Led} (N : News h₀ L h (p :: l)) (hq : q ∈ l) : News h₀ L h [p, q] := fun y hy => by
  rcases List.mem_cons.mp hy with rfl | hy
  · exact N _ (.head _)
  · rw [List.mem_singleton.mp hy]; exact N _ (.tail _ hq)
theorem news_one {h₀ h : Heap} {L : Addr} {p : Addr × Obj} {l : Led} (N : News h₀ L h l) (h1 : p ∈ l) : News h₀ L h [p] := fun y hy => by
  rw [List.mem_singleton.mp hy]; exact N _ h1
theorem news_three {h₀ h : Heap} {L : Addr} {p q r : Addr × Obj} {l : Led} (N : News h₀ L h l) (h1 : p ∈ l) (h2 : q ∈ l) (h3 : r ∈ l) : News h₀ L h [p, q, r] := fun y hy => by
  rcases List.mem_cons.mp hy with rfl | hy
  · exact N _ h1
  · rcases List.mem_cons.mp hy with rfl | hy
    · exact N _ h2
    · rw [List.mem_singleton.mp hy]; exact N _ h3
theorem news_nil {h₀ h : Heap} {L : Addr} : News h₀ L h [] := fun _ hq => nomatch hq
theorem news_pair {h₀ h : Heap} {L : Addr} {p q : Addr × Obj} {l : Led} (N : News h₀ L h l) (h1 : p ∈ l) (h2 : q ∈ l) : News h₀ L h [p, q] := fun y hy => by
  rcases List.mem_cons.mp hy with rfl | hy
  · exact N _ h1
  · rw [List.mem_singleton.mp hy]; exact N _ h2
end Mine

-- W8
open PySem PySem.W PyProof.Rows PySem.Calls
set_option Elab.async false
namespace Mine
/-- a def comes back; the frames' slots may be turned -/
def LeaveT (A₀ : Around) (base : Heap) (env : Env) (outer : List Env) (h₀ : Heap) (L : Addr) (m : Str → Option Value) (g : Heap) (R : Result → Shared → Prop) (v : Value) (s' : Shared) : Prop :=
  ∃ g' L'' m' news', KtsTurn ((env :: outer).filterMap (·.frame)) g g' ∧ Fr g' L'' s'.heap m' ∧ News g' L'' s'.heap news' ∧
    (∀ gh, KtsTurn (outer.filterMap (·.frame)) h₀ gh → Fr gh L s'.heap m → News gh L s'.heap news' → Below A₀ base outer gh → R (.ok (.ret v)) s')
theorem leaveT_ {A₀ : Around} {base : Heap} {env : Env} {outer : List Env} {h₀ : Heap} {L L'' : Addr} {m m' : Str → Option Value} {g g' : Heap} {news' : Led} {R : Result → Shared → Prop} {v : Value} {s' : Shared}
    (F' : Fr g' L'' s'.heap m') (N' : News g' L'' s'.heap news') (T : KtsTurn ((env :: outer).filterMap (·.frame)) g g')
    (k : ∀ gh, KtsTurn (outer.filterMap (·.frame)) h₀ gh → Fr gh L s'.heap m → News gh L s'.heap news' → Below A₀ base outer gh → R (.ok (.ret v)) s') : LeaveT A₀ base env outer h₀ L m g R v s' := ⟨g', L'', m', news', T, F', N', k⟩
section
variable {prog : Program} {w : World} {A₀ A : Around} {s : Shared} {base h₀ : Heap} {env : Env} {outer : List Env} {L f : Addr} {m : Str → Option Value} {news : List (Addr × Obj)} {K : Frag} {R : Result → Shared → Prop}
  {p : Program} {loose : List Str} {mean : ExcName → Option Value} {mg mb : Str → Option Value}
  {name qual : Str} {params : Arguments} {body : List Stmt} {scope : Scope} {dV kV doc pm cdv ct oc : Value} {an od : Option Addr} {osl : Array (Option Value)} {args : Args} {binds : List (Str × Value)}
theorem enterT (B : Below A₀ base outer h₀) (F : Fr h₀ L s.heap m) (X₀ : K.In h₀) (N : News h₀ L s.heap news) (T : Top p loose mean mg mb h₀)
    (hA : A.frames = some (env :: outer)) (hf : env.frame = some L) (hke : env.scope.kind = .function)
    (ho : K.lookup f = some ⟨oc, od, .func (fnOf name qual params body scope dV kV doc pm an cdv ct), osl⟩) (hcd : codeIn K cdv qual = true) (hroom : A.depth < recursionLimit)
    (hbind : BindsTo s (fnOf name qual params body scope dV kV doc pm an cdv ct) args binds) (hloc : ∀ y ∈ binds, scope.names.lookup y.1 = some .local)
    (h : ∀ g L' h₁, Fr h₀ L g m → Fr g L' h₁ (fun y => binds.reverse.lookup y) → News g L' h₁ news → Below A base (env :: outer) g → K.In g → Top p loose mean mg mb g →
      wpAny (model prog w) (A.deeper (envOf qual scope L' f cdv)) (execs body (envOf qual scope L' f cdv))
        (fun fl s' => LeaveT A₀ base env outer h₀ L m g R (match fl with | .ret v => v | _ => .none) s')
        (fun e s' => wpAny (model prog w) (A.deeper (envOf qual scope L' f cdv)) (leaving (envOf qual scope L' f cdv) e) (fun _ s'' => R (.error e) s'') (fun e' s'' => R (.error e') s'') s')
        { s with heap := h₁, toks := s.toks + binds.length })
    (hco : scope.isCoroutine = false) (hgen : scope.isGenerator = false) (hk : scope.kind = .function)
    (hcell : ∀ x ∈ scope.names, x.2 ≠ .cell) : codeAny (model prog w) A (.call (.ref f) args) R s :=
  enterS B F X₀ N T hA hf hke ho hcd hroom hbind hloc (fun g L' h₁ a b c d e f => wpAny_mono (h g L' h₁ a b c d e f) (fun _ _ q => q) fun _ _ q => q) hco hgen hk hcell
end
end Mine

-- W9
open PySem PySem.W PyProof.Rows PySem.Calls
set_option Elab.async false
namespace Mine
/-- one turn of a loop over the numbered signs of a text that grows one text -/
def EnumQ (h₀ : Heap) (L : Addr) (s : Shared) (x y t : Str) (m₀ : Str → Option Value) (own : Led) (v : Str) (f : Flow) (s₃ : Shared) : Prop :=
  f = .next ∧ ∃ h' tk mm tt, s₃ = { s with heap := h', toks := tk } ∧ Fr h₀ L h' mm ∧ mm t = some (.str v tt) ∧ (∀ z, z ≠ t → z ≠ x → z ≠ y → mm z = m₀ z) ∧ News h₀ L h' own
theorem enum_next {h₀ : Heap} {L : Addr} {s : Shared} {x y t : Str} {m₀ mm : Str → Option Value} {own : Led} {v : Str} {h' : Heap} {tk : Nat} {tt : Tok} {u : Str}
    (F : Fr h₀ L h' mm) (N : News h₀ L h' own) (ht : mm t = some (.str u tt)) (hm : ∀ z, z ≠ t → z ≠ x → z ≠ y → mm z = m₀ z) (e : u = v) : EnumQ h₀ L s x y t m₀ own v .next { s with heap := h', toks := tk } :=
  ⟨rfl, h', tk, mm, tt, rfl, F, e ▸ ht, hm, N⟩
section
variable {prog : Program} {w : World} {A : Around} {E : Value → Shared → Prop} {s : Shared} {env : Env} {h₀ : Heap} {m : Str → Option Value} {xi xc : Str} {body : List Stmt} {Q : Flow → Shared → Prop} {xv : Value} {T t : Str} {v0 : Str} {t0 : Tok}
theorem enum_each (S : PairSrc prog w A E h₀ env ItemKind.str (signs T) xv s m []) (st : Nat → Str) (hm0 : m t = some (.str v0 t0)) (hst : v0 = st 0) (htc : t ≠ xc) (hti : t ≠ xi)
    (turn : ∀ (i c : Nat) ti tc tt h tk own, (T.cps.toList)[i]? = some c → Fr h₀ env.locals h (fun z => if z = xc then some (.str ⟨#[c]⟩ tc) else if z = xi then some (.int i ti) else if z = t then some (.str (st i) tt) else m z) → News h₀ env.locals h own →
      wpAny (model prog w) A (execs body env) (EnumQ h₀ env.locals { s with heap := h, toks := tk } xi xc t m own (st (i + 1))) E { s with heap := h, toks := tk })
    (done : ∀ h' tk tt vi vc, Fr h₀ env.locals h' (fun z => if z = xc then vc else if z = xi then vi else if z = t then some (.str (st T.length) tt) else m z) → News h₀ env.locals h' [] → Q .next { s with heap := h', toks := tk }) :
    wpAny (model prog w) A (pyIter xv) (fun it s₂ => PairAt3 prog w A h₀ env xi xc body Q E it s₂) E s := by
  have canon : ∀ (m₁ : Str → Option Value) (i : Nat) tt, m₁ t = some (.str (st i) tt) → (∀ z, z ≠ t → z ≠ xi → z ≠ xc → m₁ z = m z) →
      m₁ = fun z => if z = xc then m₁ xc else if z = xi then m₁ xi else if z = t then some (.str (st i) tt) else m z := by
    intro m₁ i tt h1 h2
    funext z
    by_cases a : z = xc
    · rw [if_pos a, a]
    · rw [if_neg a]
      by_cases b : z = xi
      · rw [if_pos b, b]
      · rw [if_neg b]
        by_cases c : z = t
        · rw [if_pos c, c, h1]
        · rw [if_neg c]; exact h2 z c b a
  refine S xi xc body Q (fun i m₁ news₁ => news₁ = [] ∧ (∃ tt, m₁ t = some (.str (st i) tt)) ∧ ∀ z, z ≠ t → z ≠ xi → z ≠ xc → m₁ z = m z) ⟨rfl, ⟨t0, by rw [hm0, hst]⟩, fun _ _ _ _ => rfl⟩ ?_ ?_
  · rintro i a ti v m₁ news₁ s₁ own ⟨h, tk, rfl⟩ ha hk ⟨rfl, ⟨tt, hmt⟩, hmo⟩ _ _ F₁ N₁
    obtain ⟨u, rfl⟩ := ItemKind.str_is hk
    obtain ⟨c, hc, rfl⟩ : ∃ c, (T.cps.toList)[i]? = some c ∧ a = ⟨#[c]⟩ := by
      unfold signs at ha
      rw [List.getElem?_map] at ha
      cases h : T.cps.toList[i]? with
      | none => rw [h] at ha; cases ha
      | some c => rw [h] at ha; cases ha; exact ⟨c, rfl, rfl⟩
    rw [canon m₁ i tt hmt hmo] at F₁
    have e : (fun y => if y = xc then some (Value.str ⟨#[c]⟩ u) else if y = xi then some (Value.int i ti) else (fun z => if z = xc then m₁ xc else if z = xi then m₁ xi else if z = t then some (.str (st i) tt) else m z) y) =
        (fun z => if z = xc then some (.str ⟨#[c]⟩ u) else if z = xi then some (.int i ti) else if z = t then some (.str (st i) tt) else m z) := by
      funext z
      by_cases a : z = xc
      · simp [a]
      · by_cases b : z = xi
        · simp [b]
        · simp [a, b]
    rw [e] at F₁
    rw [List.append_nil] at N₁
    refine wpAny_mono (turn i c ti u tt h tk own hc F₁ N₁) (fun f s₂ q => ?_) fun _ _ x => x
    obtain ⟨rfl, h', tk', mm, tt', rfl, F', hmt', hmo', N'⟩ := q
    exact ⟨rfl, h', tk', mm, [], rfl, F', by rw [List.append_nil]; exact N', rfl, rfl, ⟨tt', hmt'⟩, hmo'⟩
  · rintro h' tk m' news' F' N' _ ⟨rfl, ⟨tt, hmt⟩, hmo⟩
    have hmt' : m' t = some (.str (st T.length) tt) := by rw [hmt, signs_length]
    rw [canon m' T.length tt hmt' hmo] at F'
    exact done h' tk tt _ _ F' N'
end
end Mine

-- Def10
open PySem PySem.W PyProof.Rows PySem.Calls
set_option Elab.async false
namespace Mine
/-- the signs of a text -/
abbrev lst (T : Str) : List Nat := T.cps.toList
theorem lst_len (T : Str) : (lst T).length = T.length := by simp [Str.length]
theorem lst_app (a b : Str) : lst (a ++ b) = lst a ++ lst b := by show (a ++ b).cps.toList = _; rw [Str.cps_append]; simp
def lawStep (p c : Nat) : List Nat := if c = 13 then [10] else if c ≠ 10 ∨ p ≠ 13 then [c] else []
/-- each line end one line feed -/
def lp : Nat → List Nat → List Nat
  | _, [] => []
  | p, c :: r => lawStep p c ++ lp c r
theorem lp_snoc : ∀ (l : List Nat) (p c : Nat), lp p (l ++ [c]) = lp p l ++ lawStep (l.getLast?.getD p) c
  | [], p, c => by simp [lp]
  | a :: r, p, c => by
    show lawStep p a ++ lp a (r ++ [c]) = (lawStep p a ++ lp a r) ++ _
    rw [lp_snoc r a c, List.append_assoc]
    cases r with
    | nil => rfl
    | cons b r =>
      rw [List.getLast?_cons_cons]
      have : ∃ z, (b :: r).getLast? = some z := by cases h : (b :: r).getLast? with | none => (simp at h) | some z => exact ⟨z, rfl⟩
      obtain ⟨z, e⟩ := this
      rw [e]; rfl
theorem lp_len : ∀ (l : List Nat) (p : Nat), (lp p l).length ≤ l.length
  | [], p => Nat.le_refl _
  | a :: r, p => by
    have := lp_len r a
    have : (lawStep p a).length ≤ 1 := by unfold lawStep; (repeat' split) <;> simp
    show (lawStep p a ++ lp a r).length ≤ _
    rw [List.length_append, List.length_cons]; omega
/-- what the law's loop has built after i signs -/
@[irreducible] def lpTo (T : Str) (i : Nat) : Str := ⟨(lp 0 ((lst T).take i)).toArray⟩
@[irreducible] def plainLaw (T : Str) : Str := ⟨(lp 0 (lst T)).toArray⟩
theorem lpTo_zero (T : Str) : lpTo T 0 = Str.ofString "" := by unfold lpTo; apply Str.ext'; rfl
theorem lpTo_all (T : Str) : lpTo T T.length = plainLaw T := by unfold lpTo plainLaw; rw [List.take_of_length_le (by rw [lst_len]; exact Nat.le_refl _)]
theorem lpTo_len (T : Str) (i : Nat) : (lpTo T i).length ≤ T.length := by
  unfold lpTo
  have := lp_len ((lst T).take i) 0
  simp only [Str.length, List.size_toArray]
  have h2 : ((lst T).take i).length ≤ T.cps.size := by simp; omega
  omega
theorem lpTo_succ {T : Str} {i c : Nat} (h : (lst T)[i]? = some c) : lpTo T (i + 1) = ⟨(lp 0 ((lst T).take i) ++ lawStep (((lst T).take i).getLast?.getD 0) c).toArray⟩ := by
  unfold lpTo
  rw [← lp_snoc]
  have : (lst T).take (i + 1) = (lst T).take i ++ [c] := by rw [List.take_add_one, h]; rfl
  rw [this]
theorem app_str (a b : List Nat) : (⟨a.toArray⟩ : Str) ++ ⟨b.toArray⟩ = ⟨(a ++ b).toArray⟩ := by
  apply Str.ext'; rw [Str.cps_append]; simp
theorem sign_eq {c d : Nat} : ((⟨#[c]⟩ : Str) == ⟨#[d]⟩) = decide (c = d) := by
  rw [Bool.eq_iff_iff]; simp
theorem lp_cr {T : Str} {i c : Nat} (h : (lst T)[i]? = some c) (hc : ((⟨#[c]⟩ : Str) == Str.ofString "\x0d") = true) : lpTo T i ++ Str.ofString "\n" = lpTo T (i + 1) := by
  rw [lpTo_succ h]
  have e : c = 13 := by
    have : ((⟨#[c]⟩ : Str) == ⟨#[13]⟩) = true := hc
    rw [sign_eq] at this; simpa using this
  subst e
  unfold lpTo
  rw [show lawStep (((lst T).take i).getLast?.getD 0) 13 = [10] from rfl]
  exact app_str _ [10]
theorem lp_other {T : Str} {i c : Nat} (h : (lst T)[i]? = some c) (hc : ((⟨#[c]⟩ : Str) == Str.ofString "\x0d") = false) (hn : ((⟨#[c]⟩ : Str) != Str.ofString "\n") = true) : lpTo T i ++ ⟨#[c]⟩ = lpTo T (i + 1) := by
  rw [lpTo_succ h]
  have e : c ≠ 13 := by
    have : ((⟨#[c]⟩ : Str) == ⟨#[13]⟩) = false := hc
    rw [sign_eq] at this; simpa using this
  have e2 : c ≠ 10 := by
    have : (!((⟨#[c]⟩ : Str) == ⟨#[10]⟩)) = true := hn
    rw [sign_eq] at this; simpa using this
  unfold lpTo
  rw [show lawStep (((lst T).take i).getLast?.getD 0) c = [c] by unfold lawStep; rw [if_neg e, if_pos (.inl e2)]]
  exact app_str _ [c]
theorem before_eq {T : Str} {i c : Nat} (h : (lst T)[i]? = some c) : Txt.slice T (some ((i : Int) - 1)) (some (i : Int)) = if i = 0 then ⟨#[]⟩ else ⟨#[((lst T).take i).getLast?.getD 0]⟩ := by
  have hi : i < (lst T).length := (List.getElem?_eq_some_iff.mp h).1
  have hl := lst_len T
  by_cases h0 : i = 0
  · subst h0
    rw [if_pos rfl]
    show StrLaws.sliceText T (some (-1)) (some 0) = _
    rw [StrLaws.sliceText_neg_lo T (some 0) (by omega) (by omega)]
    have e : (-1 : Int) + (T.length : Int) = ((T.length - 1 : Nat) : Int) := by omega
    rw [e]
    show Txt.slice T (some ((T.length - 1 : Nat) : Int)) (some ((0 : Nat) : Int)) = _
    rw [slice_nn]
    simp
  · rw [if_neg h0]
    have e : (i : Int) - 1 = ((i - 1 : Nat) : Int) := by omega
    rw [e, slice_nn]
    have e1 : i - (i - 1) = 1 := by omega
    rw [e1]
    have e2 : ((lst T).take i).getLast? = (lst T)[i - 1]? := by
      rw [List.getLast?_eq_getElem?, List.length_take, List.getElem?_take_of_lt (by omega)]
      congr 1; omega
    rw [e2]
    have hi' : i - 1 < (lst T).length := by omega
    rw [List.drop_eq_getElem_cons hi', List.getElem?_eq_getElem hi']
    rfl
theorem lp_lf {T : Str} {i c : Nat} (h : (lst T)[i]? = some c) (hn : ((⟨#[c]⟩ : Str) != Str.ofString "\n") = false) (hp : (Txt.slice T (some ((i : Int) - 1)) (some (i : Int)) != Str.ofString "\x0d") = true) : lpTo T i ++ ⟨#[c]⟩ = lpTo T (i + 1) := by
  rw [lpTo_succ h]
  have e2 : c = 10 := by
    have : (!((⟨#[c]⟩ : Str) == ⟨#[10]⟩)) = false := hn
    rw [sign_eq] at this; simpa using this
  subst e2
  have e3 : ((lst T).take i).getLast?.getD 0 ≠ 13 := by
    rw [before_eq h] at hp
    by_cases h0 : i = 0
    · subst h0; simp
    · rw [if_neg h0] at hp
      have : (!((⟨#[((lst T).take i).getLast?.getD 0]⟩ : Str) == ⟨#[13]⟩)) = true := hp
      rw [sign_eq] at this; simpa using this
  unfold lpTo
  rw [show lawStep (((lst T).take i).getLast?.getD 0) 10 = [10] by unfold lawStep; rw [if_neg (by decide), if_pos (.inr e3)]]
  exact app_str _ [10]
theorem lp_crlf {T : Str} {i c : Nat} (h : (lst T)[i]? = some c) (hn : ((⟨#[c]⟩ : Str) != Str.ofString "\n") = false) (hp : (Txt.slice T (some ((i : Int) - 1)) (some (i : Int)) != Str.ofString "\x0d") = false) : lpTo T i = lpTo T (i + 1) := by
  rw [lpTo_succ h]
  have e2 : c = 10 := by
    have : (!((⟨#[c]⟩ : Str) == ⟨#[10]⟩)) = false := hn
    rw [sign_eq] at this; simpa using this
  subst e2
  have e3 : ((lst T).take i).getLast?.getD 0 = 13 := by
    rw [before_eq h] at hp
    by_cases h0 : i = 0
    · rw [if_pos h0] at hp; exact absurd hp (by decide)
    · rw [if_neg h0] at hp
      have : (!((⟨#[((lst T).take i).getLast?.getD 0]⟩ : Str) == ⟨#[13]⟩)) = false := hp
      rw [sign_eq] at this; simpa using this
  unfold lpTo
  rw [show lawStep (((lst T).take i).getLast?.getD 0) 10 = [] by unfold lawStep; rw [if_neg (by decide), if_neg (by simp [e3])]]
  simp
end Mine

-- W10
open PySem PySem.W PyProof.Rows PySem.Calls PySem.Spec
set_option Elab.async false
namespace Mine
section
variable {prog : Program} {w : World} {A₀ A : Around} {s : Shared} {base h₀ : Heap} {env : Env} {outer : List Env} {L f : Addr} {m : Str → Option Value} {news : List (Addr × Obj)} {K : Frag} {R : Result → Shared → Prop}
  {p : Program} {loose : List Str} {mean : ExcName → Option Value} {mg mb : Str → Option Value}
  {name qual : Str} {params : Arguments} {body : List Stmt} {scope : Scope} {dV kV doc pm cdv ct oc : Value} {an od : Option Addr} {osl : Array (Option Value)} {args : Args} {binds : List (Str × Value)}
/-- behind a def that turned the frames' slots -/
theorem groundT {v : Value} {s' : Shared} (B : Below A₀ base outer h₀) (F : Fr h₀ L s.heap m) (hf : env.frame = some L) (N : News h₀ L s.heap news)
    (FG : Fr h₀ L (hideAll s.heap (news.map (·.1))) m) (st : h₀.StaysIn (hideAll s.heap (news.map (·.1))))
    (hl : LeaveT A₀ base env outer h₀ L m (hideAll s.heap (news.map (·.1))) R v s') : R (.ok (.ret v)) s' := by
  obtain ⟨g', L', m', news', T', F', N', k⟩ := hl
  have nL₀ : h₀.get? L = none := kts_self F
  obtain ⟨oL, es, ep, hLg, hLd, hLk, hLf⟩ := FG.ns
  obtain ⟨sl, hs⟩ := T'.up hLg
  obtain ⟨T₁, S₁⟩ := kts_turn_at (h := s'.heap) (fs := outer.filterMap (·.frame)) (g := h₀)
    (fun b hb => by
      obtain ⟨_, o, ho', _⟩ := B.frames.mem hb
      exact ⟨o, ho'⟩)
    (fun b o e nmem => F'.keep b o (T'.other b o (st b o e) (fun q => by
      rcases mem_frames hf q with z | z
      · rw [z, nL₀] at e
        cases e
      · exact nmem z)))
    (fun b o e hm => by
      obtain ⟨sl', hs'⟩ := T'.up (st b o e)
      exact ⟨sl', F'.keep _ _ hs'⟩)
  have B₃ : Below A₀ base outer (ktsHeap s'.heap (outer.filterMap (·.frame)) h₀) := ⟨B.stack, fun b o e => T₁.other b o (B.stays b o e) (fun hm => by
    rw [(B.frames.mem hm).1] at e
    cases e), B.frames.of_keeps fun b o e _ => by
    obtain ⟨sl', hs'⟩ := T₁.up e
    exact ⟨_, hs', rfl⟩⟩
  refine k _ T₁ ⟨⟨_, es, ep, F'.keep _ _ hs, hLd, hLk, hLf⟩, S₁, by rw [T₁.size]; exact F.above⟩ (fun p hp => ⟨(N' p hp).1, fun q => ?_, ?_⟩) B₃
  · have := (N' p hp).2.2; rw [q, hs] at this; cases this
  · refine T₁.none_ _ ?_
    cases q : h₀.get? p.1 with
    | none => rfl
    | some o =>
      obtain ⟨sl', hs'⟩ := T'.up (st _ _ q)
      have := (N' p hp).2.2
      rw [hs'] at this
      cases this
/-- a call of a def with cells of its own, behind which the frames' slots may be turned -/
theorem enterTC (B : Below A₀ base outer h₀) (F : Fr h₀ L s.heap m) (X₀ : K.In h₀) (N : News h₀ L s.heap news) (T : Top p loose mean mg mb h₀)
    (hA : A.frames = some (env :: outer)) (hf : env.frame = some L) (hke : env.scope.kind = .function)
    (ho : K.lookup f = some ⟨oc, od, .func (fnOf name qual params body scope dV kV doc pm an cdv ct), osl⟩) (hcd : codeIn K cdv qual = true) (hroom : A.depth < recursionLimit)
    (hbind : BindsTo s (fnOf name qual params body scope dV kV doc pm an cdv ct) args binds) (hkind : (binds.all fun y => scope.names.lookup y.1 == some .local || scope.names.lookup y.1 == some .cell) = true)
    (hnd : ((cellsFrom 0 scope.names []).map (·.1)).Nodup)
    (h : ∀ g L' h₁ tk cells, Fr h₀ L g m → Fr g L' h₁ (bindL (envOfC qual scope L' f cdv).kindOf binds fun _ => none) → News g L' h₁ (cells ++ news) →
      CellsAre (bindC (envOfC qual scope L' f cdv).kindOf binds fun _ => none) (cellsFrom (L' + 1) scope.names []) cells → Below A base (env :: outer) g → K.In g → Top p loose mean mg mb g → (∀ p ∈ news, p.1 < L') →
      wpAny (model prog w) (A.deeper (envOfC qual scope L' f cdv)) (execs body (envOfC qual scope L' f cdv))
        (fun fl s' => LeaveT A₀ base env outer h₀ L m g R (match fl with | .ret v => v | _ => .none) s')
        (fun e s' => wpAny (model prog w) (A.deeper (envOfC qual scope L' f cdv)) (leaving (envOfC qual scope L' f cdv) e) (fun _ s'' => R (.error e) s'') (fun e' s'' => R (.error e') s'') s')
        { s with heap := h₁, toks := tk })
    (hco : scope.isCoroutine = false) (hgen : scope.isGenerator = false) (hk : scope.kind = .function) : codeAny (model prog w) A (.call (.ref f) args) R s := by
  have X := X₀.keeps F.keep
  obtain ⟨FG, BG, st, _⟩ := groundX (R := R) B F N hA hf hke
  refine codeAny_call_function hroom (X _ _ ho) rfl hco hgen rfl (codeRec_of X hcd) (hbind _ _ _ _ ?_)
  refine wpAny_newFunctionEnv_cells hk (kindsX hkind _) fun env' he s' x => ?_
  subst he
  refine ⟨(T.nolimit.keeps F.keep).keeps x.toInCall.keep, codeAny_func ?_⟩
  obtain ⟨h₁, tk, rfl, _⟩ := x.done
  have hk₁ := x.toInCall.keep
  obtain ⟨cells, NC, Y⟩ := Cl.news (h₀ := s.heap) (Nat.le_refl _) fun n c hm => ⟨x.cell n c (lookup_of_mem_nodup (cellsFrom_names scope.names 0 (s.heap.objs.size + 1) [] [] rfl ▸ hnd) hm), x.above n c hm⟩
  refine wpAny_mono (h _ s.heap.objs.size h₁ tk cells FG ⟨x.toInCall.ns, fun b o e => hk₁ b o (of_hideAll _ e), Nat.le_of_eq (hideAll_size _ _)⟩ (fun p hp => ?_) Y BG (X₀.keeps st) (T.keeps st) (fun p hp => Heap.lt_size (N p hp).1)) (fun fl s' hl => groundT B F hf N FG st hl) fun _ _ y => y
  rcases List.mem_append.mp hp with hp | hp
  · refine ⟨(NC p hp).1, (NC p hp).2.1, ?_⟩
    cases q : (hideAll s.heap (news.map (·.1))).get? p.1 with
    | none => rfl
    | some o => have := of_hideAll _ q; rw [(NC p hp).2.2] at this; cases this
  · exact ⟨hk₁ _ _ (N p hp).1, Nat.ne_of_lt (Heap.lt_size (N p hp).1), hideAll_none _ (List.mem_map_of_mem hp)⟩
end
end Mine

-- Def11
open PySem PySem.W PyProof.Rows PySem.Calls
set_option Elab.async false
namespace Mine
/-- a text or nothing, as a value -/
def optV : Option Str → Tok → Value | some x, t => .str x t | none, _ => .none
theorem news_front3 {h₀ h : Heap} {L : Addr} {p q r : Addr × Obj} {l : Led} (N : News h₀ L h l) (h1 : p ∈ l) (h2 : q ∈ l) (h3 : r ∈ l) : News h₀ L h (p :: q :: r :: l) := news_dup (a := q :: r :: l) (news_dup (a := r :: l) (news_dup N h3) (.tail _ h2)) (.tail _ (.tail _ h1))
/-- what the law asks of plain_outer, by what without_head tells -/
def outLaw : Option Str → Option Str
  | none => none
  | some d => if inText d (sOf "\x01") = true then none else some (plainLaw d)
theorem outLaw_none {o : Option Str} (h : o = none) : outLaw o = none := by rw [h]; rfl
theorem outLaw_bad {o : Option Str} {d : Str} (h : o = some d) (hc : (Builtin.Str.occurrences d (sOf "\x01") 0 d.length 1).isEmpty = false) : outLaw o = none := by
  rw [h]; show (if inText d (sOf "\x01") = true then none else _) = none
  rw [if_pos]; unfold inText; rw [hc]; rfl
theorem outLaw_ok {o : Option Str} {d : Str} (h : o = some d) (hc : (Builtin.Str.occurrences d (sOf "\x01") 0 d.length 1).isEmpty = true) : outLaw o = some (plainLaw d) := by
  rw [h]; show (if inText d (sOf "\x01") = true then none else _) = _
  rw [if_neg]; unfold inText; rw [hc]; simp
theorem tf (b : Bool) : b = true ∨ b = false := by cases b <;> simp
theorem news_front4 {h₀ h : Heap} {L : Addr} {p q r u : Addr × Obj} {l : Led} (N : News h₀ L h l) (h1 : p ∈ l) (h2 : q ∈ l) (h3 : r ∈ l) (h4 : u ∈ l) : News h₀ L h (p :: q :: r :: u :: l) := news_dup (a := q :: r :: u :: l) (news_front3 N h2 h3 h4) (.tail _ (.tail _ (.tail _ h1)))
/-- a mark: the walk is to stop at the next lambda -/
def HoldNow : Prop := True
theorem cutT {T P : Prop} (ht : T) (h : T → P) : P := h ht
theorem bne_self {x : Str} (h : (x != x) = true) : False := by simp at h
theorem slice_cell {oT : Obj} {v : Value} (h : oT.data = .cell (some v)) : oT.data = .cell (some v) := h
theorem cutR {P : Prop} {T : (Str → Option Value) → Around → Sem Value → (Value → Shared → Prop) → (Value → Shared → Prop) → Prop} (ba : Str → Option Value) (A : Around) (t : Sem Value) (Q E : Value → Shared → Prop) (ht : T ba A t Q E) (hm : T ba A t Q E → P) : P := hm ht
end Mine

-- W11
open PySem PySem.W PyProof.Rows PySem.Calls PySem.Spec
set_option Elab.async false
namespace Mine
section
variable {prog : Program} {w : World} {A : Around} {E : Value → Shared → Prop} {s : Shared} {env : Env} {h₀ : Heap} {L : Addr} {m : Str → Option Value} {news : Led} {target : Expr} {body : List Stmt} {Q : Flow → Shared → Prop}
/-- one turn of a for loop, then C -/
def TurnF (prog : Program) (w : World) (A : Around) (E : Value → Shared → Prop) (env : Env) (target : Expr) (body : List Stmt) (Q : Flow → Shared → Prop) (it : Value) (C : Shared → Prop) (s : Shared) : Prop :=
  wpAny (model prog w) A (pyNext it) (fun r s₁ => match r with
    | none => Q .next s₁
    | some v => wpAny (model prog w) A (letOwnedTupleGo target it v) (fun _ s₁' => wpAny (model prog w) A (assign target env v) (fun _ s₂ => wpAny (model prog w) A (execs body env) (fun f s₃ => match f with
        | .next | .cont => C s₃
        | .brk => Q .next s₃
        | .ret v => Q (.ret v) s₃) E s₂) E s₁') E s₁) E s
/-- a loop of two turns -/
def Turns2 (prog : Program) (w : World) (A : Around) (E : Value → Shared → Prop) (env : Env) (target : Expr) (body : List Stmt) (Q : Flow → Shared → Prop) (it : Value) (s : Shared) : Prop :=
  TurnF prog w A E env target body Q it (TurnF prog w A E env target body Q it (TurnF prog w A E env target body Q it fun _ => False)) s
theorem turnF_up {it : Value} {C D : Shared → Prop} (hE : PassesOwn (model prog w) A env E) (hCD : ∀ s, C s → D s) (h : TurnF prog w A E env target body Q it C s) :
    wpAny (model prog w) A (pyNext it) (fun r s₁ => match r with
      | none => wpAny (model prog w) A (execs [] env) (fun f s₃ => (fun (r : Result) s' => match r with | .ok f => Q f s' | .error e => cameBackBy (model prog w) A env E e s') (.ok f) s₃) (notedBy (model prog w) A env fun e s' => (fun (r : Result) s' => match r with | .ok f => Q f s' | .error e => cameBackBy (model prog w) A env E e s') (.error e) s') s₁
      | some v => wpAny (model prog w) A (letOwnedTupleGo target it v) (fun _ s₁' => wpAny (model prog w) A (assign target env v) (fun _ s₂ => wpAny (model prog w) A (execs body env) (fun f s₃ => match f with
          | .next | .cont => D s₃
          | .brk => Q .next s₃
          | .ret v => Q (.ret v) s₃) (notedBy (model prog w) A env (cameBackBy (model prog w) A env E)) s₂) (notedBy (model prog w) A env (cameBackBy (model prog w) A env E)) s₁') (notedBy (model prog w) A env (cameBackBy (model prog w) A env E)) s₁) (notedBy (model prog w) A env (cameBackBy (model prog w) A env E)) s := by
  refine wpAny_passesOwn hE (wpAny_mono h (fun r s₁ h₁ => ?_) fun _ _ e => e)
  cases r with
  | none => exact wpAny_execs_nil h₁
  | some v =>
    refine wpAny_passesOwn hE (wpAny_mono h₁ (fun _ s₁' h₂ => ?_) fun _ _ e => e)
    refine wpAny_passesOwn hE (wpAny_mono h₂ (fun _ s₂ h₃ => ?_) fun _ _ e => e)
    refine wpAny_passesOwn hE (wpAny_mono h₃ (fun f s₃ h₄ => ?_) fun _ _ e => e)
    cases f with
    | next => exact hCD _ h₄
    | cont => exact hCD _ h₄
    | brk => exact h₄
    | ret v => exact h₄
theorem for_two {iter : Expr} {pos : Pos} (_F : Fr h₀ env.locals s.heap m)
    (h : wpAny (model prog w) A (eval iter env) (fun xv s₁ => wpAny (model prog w) A (pyIter xv) (fun it s₂ => Turns2 prog w A E env target body Q it s₂) E s₁) E s)
    (hs : ∀ x, foldedSetIterable iter env x = pure x := by intro _; rfl)
    (hE : PassesOwn (model prog w) A env E := by passes_own) :
    wpAny (model prog w) A (exec (.For target iter body [] pos) env) Q E s := by
  refine wpAny_For (wpAny_mono h (fun xv s₁ h₁ => wpAny_mono h₁ (fun it s₂ h₂ => ?_) fun _ _ e => e) fun _ _ e => e) hs
  refine codeAny_forLoop_any (fun n s => (n = 3 ∧ Turns2 prog w A E env target body Q it s) ∨ (n = 2 ∧ TurnF prog w A E env target body Q it (TurnF prog w A E env target body Q it fun _ => False) s) ∨ (n = 1 ∧ TurnF prog w A E env target body Q it (fun _ => False) s)) ?_ 3 (.inl ⟨rfl, h₂⟩)
  rintro n s (⟨rfl, h⟩ | ⟨rfl, h⟩ | ⟨rfl, h⟩)
  · exact turnF_up hE (fun s q => ⟨2, by omega, .inr (.inl ⟨rfl, q⟩)⟩) h
  · exact turnF_up hE (fun s q => ⟨1, by omega, .inr (.inr ⟨rfl, q⟩)⟩) h
  · exact turnF_up hE (fun s q => q.elim) h
theorem iter_listX {l : Addr} {items : List Value} {n : Nat} {Q : Value → Shared → Prop} (F : Fr h₀ L s.heap m) (N : News h₀ L s.heap news) (hm : (l, listOf items.toArray n) ∈ news)
    (h : ∀ it o h', o.cls = .type "list_iterator" → o.data = .fields #[.ref l, .int 0 0] → Fr h₀ L h' m → News h₀ L h' ((it, o) :: news) → (∀ p ∈ news, p.1 < it) → Q (.ref it) { s with heap := h' }) :
    wpAny (model prog w) A (pyIter (.ref l)) Q E s :=
  wpAny_pyIter_list (items := items.toArray) ⟨_, (N _ hm).1, rfl, n, rfl⟩ (h _ _ _ rfl rfl (F.push _) (N.push F _) fun p hp => Heap.lt_size (N p hp).1)
theorem fr_extBut {h h' : Heap} {b : Addr} (F : Fr h₀ L h m) (x : Heap.ExtBut b h h') (hL : b ≠ L) (hn : h₀.get? b = none) : Fr h₀ L h' m :=
  ⟨F.ns.extBut x hL.symm, fun a o e => x a o (fun q => by rw [q, hn] at e; cases e) (F.keep a o e), F.above⟩
theorem turn_item {C : Shared → Prop} {l it : Addr} {o : Obj} {g : Obj → Led} {items : List Value} {n i : Nat} {v : Value} (F : Fr h₀ L s.heap m) (N : News h₀ L s.heap news) (U : UpdF it o news g) (hc : o.cls = .type "list_iterator") (hd : o.data = .fields #[.ref l, .int (i : Int) 0]) (hm : (l, listOf items.toArray n) ∈ news)
    (hx : items[i]? = some v) (hT : ∀ it v, letOwnedTupleGo target it v = pure ())
    (h : ∀ o' h', o'.cls = .type "list_iterator" → o'.data = .fields #[.ref l, .int ((i + 1 : Nat) : Int) 0] → Fr h₀ L h' m → News h₀ L h' (g o') →
      wpAny (model prog w) A (assign target env v) (fun _ s₂ => wpAny (model prog w) A (execs body env) (fun f s₃ => match f with
        | .next | .cont => C s₃
        | .brk => Q .next s₃
        | .ret v => Q (.ret v) s₃) E s₂) E { s with heap := h' }) : TurnF prog w A E env target body Q (.ref it) C s := by
  have hl : s.heap.IsList l items.toArray := ⟨_, (N _ hm).1, rfl, n, rfl⟩
  obtain ⟨own, rest, rfl, hgr, h1, h2⟩ := U.split
  have hI := N (it, o) (List.mem_append_right _ (.head _))
  have hit : s.heap.IsListIter it l i := ⟨o, hI.1, hc, hd⟩
  refine wpAny_pyNext_list_item hit hl (by simpa using hx) fun h' hit' hs' => ?_
  obtain ⟨o', ho', hc', hd'⟩ := hit'
  show wpAny (model prog w) A (letOwnedTupleGo target (.ref it) v) _ _ _
  rw [hT]
  refine wpAny_pure (h o' h' hc' hd' (fr_extBut F hs'.extBut hI.2.1 hI.2.2) fun p hp => ?_)
  rw [hgr] at hp
  rcases List.mem_append.mp hp with hp | hp
  · exact ⟨hs'.extBut _ _ (h1 p hp) (N _ (List.mem_append_left _ hp)).1, (N _ (List.mem_append_left _ hp)).2⟩
  · rcases List.mem_cons.mp hp with rfl | hp
    · exact ⟨ho', hI.2⟩
    · exact ⟨hs'.extBut _ _ (h2 p hp) (N _ (List.mem_append_right _ (.tail _ hp))).1, (N _ (List.mem_append_right _ (.tail _ hp))).2⟩
theorem turn_end {C : Shared → Prop} {l it : Addr} {o : Obj} {items : List Value} {n i : Nat} (hh : A.handled = none) (F : Fr h₀ L s.heap m) (N : News h₀ L s.heap news) (hI : (it, o) ∈ news) (hc : o.cls = .type "list_iterator") (hd : o.data = .fields #[.ref l, .int (i : Int) 0]) (hm : (l, listOf items.toArray n) ∈ news)
    (hx : items[i]? = none) (q : Addr × Obj) (hq : q ∈ news) (hqi : q.1 ≠ it) (h : ∀ h', Fr h₀ L h' m → News h₀ L h' [q] → Q .next { s with heap := h' }) : TurnF prog w A E env target body Q (.ref it) C s := by
  have hit : s.heap.IsListIter it l i := ⟨o, (N _ hI).1, hc, hd⟩
  have hl : s.heap.IsList l items.toArray := ⟨_, (N _ hm).1, rfl, n, rfl⟩
  refine wpAny_pyNext_list_end hh hit hl (by simpa using hx) fun h' hs' => ?_
  exact h h' (fr_extBut F hs' (N _ hI).2.1 (N _ hI).2.2) fun p hp => by
    rw [List.mem_singleton.mp hp]
    exact ⟨hs' _ _ hqi (N _ hq).1, (N _ hq).2⟩
end
end Mine

-- Def12
open PySem PySem.W PyProof.Rows PySem.Calls
set_option Elab.async false
namespace Mine
theorem outer_lit1 : outerOf (Str.ofString "\ufeff<?xml encoding='a'?>b\x0d\nc\x0dd") = some (Str.ofString "b\nc\nd") := by decide +kernel
theorem outer_lit2 : outerOf (Str.ofString "\ufeff\ufeffa") = some (Str.ofString "\ufeffa") := by decide +kernel
theorem bare_lit1 : bare (Str.ofString "") = some (Str.ofString "") := by decide +kernel
theorem bare_lit2 : bare (Str.ofString "<?xml") = some (Str.ofString "<?xml") := by decide +kernel
theorem bare_lit3 : bare (Str.ofString "<?xm") = some (Str.ofString "<?xm") := by decide +kernel
theorem bare_lit4 : bare (Str.ofString "<?xml-a ?>") = some (Str.ofString "<?xml-a ?>") := by decide +kernel
end Mine

-- W12
open PySem PySem.W PyProof.Rows PySem.Calls
set_option Elab.async false
namespace Mine
theorem s_neSelf {prog : Program} {w : World} {A : Around} {E : Value → Shared → Prop} {s : Shared} {Q : Value → Shared → Prop} {x : Str} {t u : Tok} (h : Q (.bool false) s) : wpAny (model prog w) A (compareOp .NotEq (.str x t) (.str x u)) Q E s :=
  ne_str (by rw [show (x != x) = false by simp]; exact h)
theorem m_ff {P Q : Prop} {i : Decidable (false = true)} (h : Q) : @ite Prop (false = true) i P Q := (if_neg (c := false = true) Bool.false_ne_true) ▸ h
theorem m_tt {P Q : Prop} {i : Decidable (true = true)} (h : P) : @ite Prop (true = true) i P Q := (if_pos (c := true = true) rfl) ▸ h
end Mine

-- W13
open PySem PySem.W PyProof.Rows PySem.Calls PySem.Spec
set_option Elab.async false
namespace Mine
section
variable {prog : Program} {w : World} {A : Around} {E : Value → Shared → Prop} {s : Shared} {h₀ : Heap} {L : Addr} {m : Str → Option Value} {env : Env}
/-- the test of a comprehension over pairs is false at an item -/
def PairNo (prog : Program) (w : World) (A : Around) (h₀ : Heap) (L : Addr) (m : Str → Option Value) (env : Env) (c : Expr) (x x₂ : Str) (scope : Scope) (cl : List (Str × Addr)) (s : Shared) (news : Led) (v : Value) : Prop :=
  ∃ (t : Addr) (ot : Obj) (v₁ v₂ : Value) (nt : Nat), v = .ref t ∧ (t, ot) ∈ news ∧ ot.cls = .type "tuple" ∧ ot.data = .seq #[v₁, v₂] nt ∧
    ∀ I oI C oC D m₂ h tk (E' : Value → Shared → Prop), LCg.NsObj oC m₂ → m₂ x = some v₁ → m₂ x₂ = some v₂ → Fr h₀ L h m → News h₀ L h ((I, oI) :: (C, oC) :: (D, LCg.lst []) :: news) → LCg.Off3 I C D news → ((@Ne Nat I C) ∧ (@Ne Nat I D) ∧ (@Ne Nat C D)) →
      wpAny (model prog w) A (isTrue c (compEnvC scope cl C env) (eval c (compEnvC scope cl C env))) (fun b s₃ => b = false ∧ ∃ h' tk', s₃ = { s with heap := h', toks := tk' } ∧ Fr h₀ L h' m ∧ News h₀ L h' ((I, oI) :: (C, oC) :: (D, LCg.lst []) :: news)) E' { s with heap := h, toks := tk }
/-- what the source of such a comprehension hands on -/
def PairSrcNo (prog : Program) (w : World) (A : Around) (h₀ : Heap) (L : Addr) (m : Str → Option Value) (env : Env) (c : Expr) (x x₂ : Str) (scope : Scope) (cl : List (Str × Addr)) (Q : Value → Shared → Prop) (xv : Value) (s₁ : Shared) : Prop :=
  ∃ (ax : Addr) (its : Array Value) (k : Nat) (news : Led), xv = .ref ax ∧ A.handled = none ∧ Fr h₀ L s₁.heap m ∧ News h₀ L s₁.heap news ∧ (ax, ({ cls := .type "list", data := .seq its k } : Obj)) ∈ news ∧
    (∀ s₂ : Shared, (∃ h, s₂ = { s₁ with heap := h }) → (∀ (i : Nat) (v : Value), its[i]? = some v → PairNo prog w A h₀ L m env c x x₂ scope cl s₂ news v) ∧
      ∀ D h tk, Fr h₀ L h m → News h₀ L h ((D, LCg.lst []) :: news) → (∀ p ∈ news, p.1 ≠ D) → Q (.ref D) { s₂ with heap := h, toks := tk })
theorem comp_pairs_no {elt iter c : Expr} {x x₂ : Str} {px px₂ tp : Pos} {tk} {scope : Scope} {cl : List (Str × Addr)} {pos : Pos} {Q : Value → Shared → Prop} (_F₀ : Fr h₀ L s.heap m)
    (hclos : closureFor scope env = pure cl) (hcell : ∀ y ∈ scope.names, y.2 ≠ .cell) (hkind : scope.kind = .function)
    (hnames : ∀ y ∈ scope.names, y.2 = .local → scope.names.lookup y.1 = some .local) (hx : scope.names.lookup x = some .local) (hx₂ : scope.names.lookup x₂ = some .local) (hxx : x ≠ x₂)
    (h : wpAny (model prog w) A (eval iter env) (PairSrcNo prog w A h₀ L m env c x x₂ scope cl Q) E s)
    (hs : ∀ x, foldedSetIterable iter env x = pure x := by intro _; rfl) :
    wpAny (model prog w) A (eval (.ListComp elt [⟨.Tuple [.Name x px, .Name x₂ px₂] tk tp, iter, [c], 0⟩] scope pos) env) Q E s := by
  rw [eval_ListComp]
  refine wpAny_comprehension_free (use := none) rfl hs hclos hkind hnames (wpAny_mono h (fun xv s₁ h₁ => ?_) fun _ _ e => e)
  obtain ⟨ax, its, k, news, rfl, hh, F, N, hmx, R⟩ := h₁
  have hl : s₁.heap.IsList ax its := ⟨_, (N _ hmx).1, rfl, k, rfl⟩
  have hlt : ax < s₁.heap.objs.size := Heap.lt_size (N _ hmx).1
  refine wpAny_pyIter_list hl ?_
  generalize hI : s₁.heap.objs.size = I at *
  obtain ⟨H1, hH1⟩ : ∃ H1, H1 = s₁.heap.push { cls := .type "list_iterator", data := .fields #[.ref ax, .int 0 0] } := ⟨_, rfl⟩
  rw [← hH1]
  have up : ∀ b o, s₁.heap.get? b = some o → H1.get? b = some o := fun b o e => hH1 ▸ Heap.get?_push_of_some _ e
  have hsz1 : H1.objs.size = I + 1 := by rw [hH1, Heap.size_push, hI]
  have hit1 : H1.IsListIter I ax 0 := ⟨_, by rw [hH1, ← hI]; exact Heap.get?_push_size _ rfl, rfl, rfl⟩
  have F1 : Fr h₀ L H1 m := F.keeps up
  have N1 : News h₀ L H1 news := N.grown up
  obtain ⟨RN, RQ⟩ := R { s₁ with heap := H1 } ⟨H1, rfl⟩
  have hLI : L ≠ I := by rw [← hI]; exact Nat.ne_of_lt F.ns.lt
  have fresh₀ : ∀ a, I ≤ a → h₀.get? a = none := fun a ha => by
    cases e : h₀.get? a with
    | none => rfl
    | some o' => have := Heap.lt_size (F.keep a o' e); rw [hI] at this; exact absurd this (Nat.not_lt.mpr ha)
  have hI₀ := fresh₀ I (Nat.le_refl _)
  have ltI : ∀ p ∈ news, p.1 < I := fun p hp => by rw [← hI]; exact Heap.lt_size (N p hp).1
  refine wpAny_newObj_type (wpAny_newFunctionEnv hcell (by intro y hy; simp at hy) (fun h₁ hns₁ hsb₁ => ?_) hkind)
  dsimp only at hns₁ hsb₁ ⊢
  generalize hH2 : H1.push { cls := .type "list", dict := none, data := .seq ([] : List Value).toArray } = H2 at hns₁ hsb₁ ⊢
  have hC : H2.objs.size = I + 2 := by rw [← hH2, Heap.size_push, hsz1]
  rw [hsz1]
  generalize hCe : H2.objs.size = C at *
  have old : ∀ b o, H1.get? b = some o → h₁.get? b = some o := fun b o e => hsb₁.extBut b o (by have q : @LT.lt Nat _ b (I + 1) := hsz1 ▸ Heap.lt_size e; show @Ne Nat _ _; omega) (Heap.get?_push_of_some _ (hH2 ▸ Heap.get?_push_of_some _ e))
  have hacc : h₁.get? (I + 1) = some (LCg.lst []) := hsb₁.extBut _ _ (by show @Ne Nat _ _; omega) (Heap.get?_push_of_some _ (hH2 ▸ hsz1 ▸ Heap.get?_push_size _ rfl))
  have hC₀ := fresh₀ C (by omega)
  have hD₀ := fresh₀ (I + 1) (by omega)
  have hLlt : @LT.lt Nat _ L I := by rw [← hI]; exact F.ns.lt
  have hCL : C ≠ L := by show @Ne Nat _ _; omega
  have hDL : I + 1 ≠ L := by show @Ne Nat _ _; omega
  have off₀ : LCg.Off3 I C (I + 1) news := LCg.Off3.of fun p hp => ⟨Nat.ne_of_lt (ltI p hp), by have q : @LT.lt Nat _ p.1 I := ltI p hp; show @Ne Nat _ _; omega, by have q : @LT.lt Nat _ p.1 I := ltI p hp; show @Ne Nat _ _; omega⟩
  have off3 := off₀.mem
  have hne : ((@Ne Nat I C) ∧ (@Ne Nat I (I + 1)) ∧ (@Ne Nat C (I + 1))) := ⟨by omega, by omega, by omega⟩
  have loop : ∀ s₃ : Shared, s₃ = { s₁ with heap := h₁, toks := s₁.toks + ([] : List (Str × Value)).length } →
      codeAny (model prog w) A (.compLoop (.ListComp elt [⟨.Tuple [.Name x px, .Name x₂ px₂] tk tp, iter, [c], 0⟩] scope pos) 0 (.ref I) (.ref (I + 1)) (compEnvC scope cl C env))
        (compPost (model prog w) A E none Q (.ref (I + 1)) C) s₃ := by
    rintro s₃ rfl
    refine kct_loop
      (fun k s' => ∃ h' tk i m', s' = { s₁ with heap := h', toks := tk } ∧ i ≤ its.size ∧ k = its.size + 1 - i ∧ h'.IsListIter I ax i ∧ Fr h₀ L h' m ∧ h'.Ns C m' ∧ News h₀ L h' ((I + 1, LCg.lst []) :: news)) ?_ (its.size + 1)
      ⟨h₁, _, 0, _, rfl, Nat.zero_le _, rfl, hit1.at fun o e => old _ _ e, F1.keeps old, hns₁, fun p hp => ?_⟩
    · rintro k s' ⟨h', tk, i, m', rfl, hi, rfl, hit', F', hn', N'⟩
      have hl' : h'.IsList ax its := ⟨_, (N' _ (.tail _ hmx)).1, rfl, _, rfl⟩
      cases hv : its[i]? with
      | some v =>
        have hilt : i < its.size := (Array.getElem?_eq_some_iff.mp hv).1
        refine wpAny_pyNext_list_item hit' hl' hv fun h₂ hit₂ hs₂ => ?_
        obtain ⟨t, ot, v₁, v₂, nt, rfl, hmt, hct, hdt, RT⟩ := RN i v hv
        have F₂ : Fr h₀ L h₂ m := fr_extBut F' hs₂.extBut hLI.symm hI₀
        have N₂ : News h₀ L h₂ ((I + 1, LCg.lst []) :: news) := fun p hp => ⟨hs₂.extBut _ _ (by
          rcases List.mem_cons.mp hp with rfl | hp
          · exact fun q => hne.2.1 q.symm
          · exact (off3 p hp).1) (N' p hp).1, (N' p hp).2⟩
        have hn₂ := hn'.extBut hs₂.extBut (show C ≠ I from fun q => hne.1 q.symm)
        have ht : IsTup h₂ t #[v₁, v₂] := ⟨ot, (N₂ _ (.tail _ hmt)).1, hct, nt, hdt⟩
        refine wpAny_letOwnedTupleGo_listiter hit₂ ?_
        refine assign_Tuple_tuple hh ht rfl rfl fun h₅ he => ?_
        have he' : ∀ b o, h₂.get? b = some o → h₅.get? b = some o := fun b o e => he b o (Nat.ne_of_lt (Heap.lt_size e)) e
        refine assignInOrder_cons (wpAny_assign_Name (wpAny_storeName_local (lookup_relabel_local hx) (hn₂.at' fun o e => he' _ o e) (fun h₆ hn₆ hs₆ => ?_) (by simp [compEnvC, relabel, hkind])))
        refine assignInOrder_cons (wpAny_assign_Name (wpAny_storeName_local (lookup_relabel_local hx₂) hn₆ (fun h₃ hn₃ hs₃ => ?_) (by simp [compEnvC, relabel, hkind])))
        refine assignInOrder_nil ?_
        have old3 : ∀ b o, b ≠ C → h₂.get? b = some o → h₃.get? b = some o := fun b o hb e => hs₃.extBut b o hb (hs₆.extBut b o hb (he' b o e))
        obtain ⟨oC, heC, hoC⟩ := LCg.ns_obj hn₃
        obtain ⟨oI, hoI, hcI, hdI⟩ := hit₂
        have F₃ : Fr h₀ L h₃ m := ((F₂.keeps he').change hs₆ hCL hC₀).change hs₃ hCL hC₀
        have N₃ : News h₀ L h₃ ((I, oI) :: (C, oC) :: (I + 1, LCg.lst []) :: news) := fun p hp => by
          rcases List.mem_cons.mp hp with rfl | hp
          · exact ⟨old3 _ _ hne.1 hoI, hLI.symm, hI₀⟩
          · rcases List.mem_cons.mp hp with rfl | hp
            · exact ⟨heC, hCL, hC₀⟩
            · have z := N₂ p hp
              refine ⟨old3 _ _ ?_ z.1, z.2⟩
              rcases List.mem_cons.mp hp with rfl | hp
              · exact fun q => hne.2.2 q.symm
              · exact (off3 p hp).2.1
        refine wpAny_mono (RT I oI C oC (I + 1) _ h₃ _ _ hoC (by simp [hxx]) (by simp) F₃ N₃ off₀ hne) (fun b s₄ h₄ => ?_) fun _ _ e => e
        obtain ⟨rfl, h₄, tk₄, rfl, F₄, N₄⟩ := h₄
        refine ⟨its.size + 1 - (i + 1), by omega, h₄, tk₄, i + 1, _, rfl, hilt, rfl, ⟨oI, (N₄ _ (.head _)).1, hcI, hdI⟩, F₄, hoC.ns (N₄ _ (.tail _ (.head _))).1, fun p hp => N₄ p (.tail _ (.tail _ hp))⟩
      | none =>
        refine wpAny_pyNext_list_end hh hit' hl' hv fun h₂ hs₂ => ?_
        refine ⟨m', hn'.extBut hs₂ (show C ≠ I from fun q => hne.1 q.symm), fun h'' hs'' => ?_⟩
        refine RQ (I + 1) h'' tk ((fr_extBut F' hs₂ hLI.symm hI₀).change hs'' hCL hC₀) (fun p hp => ?_) (fun p hp => (off3 p hp).2.2)
        refine ⟨hs''.extBut _ _ ?_ (hs₂ _ _ ?_ (N' p hp).1), (N' p hp).2⟩
        · rcases List.mem_cons.mp hp with rfl | hp
          · exact fun q => hne.2.2 q.symm
          · exact (off3 p hp).2.1
        · rcases List.mem_cons.mp hp with rfl | hp
          · exact fun q => hne.2.1 q.symm
          · exact (off3 p hp).1
    · rcases List.mem_cons.mp hp with rfl | hp
      · exact ⟨hacc, hDL, hD₀⟩
      · exact ⟨old _ _ (N1 p hp).1, (N1 p hp).2⟩
  exact codeAny_compStart_list (loop _ rfl) (wpAny_pyIter_listiter (hit1.at fun o e => old _ _ e) (loop _ rfl))
/-- the test of a comprehension over single items is false at an item -/
def OneNo (prog : Program) (w : World) (A : Around) (h₀ : Heap) (L : Addr) (m : Str → Option Value) (env : Env) (c : Expr) (x : Str) (scope : Scope) (cl : List (Str × Addr)) (s : Shared) (news : Led) (v : Value) : Prop :=
    ∀ I oI C oC D m₂ h tk (E' : Value → Shared → Prop), LCg.NsObj oC m₂ → m₂ x = some v → Fr h₀ L h m → News h₀ L h ((I, oI) :: (C, oC) :: (D, LCg.lst []) :: news) → LCg.Off3 I C D news → ((@Ne Nat I C) ∧ (@Ne Nat I D) ∧ (@Ne Nat C D)) →
      wpAny (model prog w) A (isTrue c (compEnvC scope cl C env) (eval c (compEnvC scope cl C env))) (fun b s₃ => b = false ∧ ∃ h' tk', s₃ = { s with heap := h', toks := tk' } ∧ Fr h₀ L h' m ∧ News h₀ L h' ((I, oI) :: (C, oC) :: (D, LCg.lst []) :: news)) E' { s with heap := h, toks := tk }
/-- what the source of such a comprehension hands on -/
def OneSrcNo (prog : Program) (w : World) (A : Around) (h₀ : Heap) (L : Addr) (m : Str → Option Value) (env : Env) (c : Expr) (x : Str) (scope : Scope) (cl : List (Str × Addr)) (Q : Value → Shared → Prop) (xv : Value) (s₁ : Shared) : Prop :=
  ∃ (ax : Addr) (its : Array Value) (k : Nat) (news : Led), xv = .ref ax ∧ A.handled = none ∧ Fr h₀ L s₁.heap m ∧ News h₀ L s₁.heap news ∧ (ax, ({ cls := .type "list", data := .seq its k } : Obj)) ∈ news ∧
    (∀ s₂ : Shared, (∃ h, s₂ = { s₁ with heap := h }) → (∀ (i : Nat) (v : Value), its[i]? = some v → OneNo prog w A h₀ L m env c x scope cl s₂ news v) ∧
      ∀ D h tk, Fr h₀ L h m → News h₀ L h ((D, LCg.lst []) :: news) → (∀ p ∈ news, p.1 ≠ D) → Q (.ref D) { s₂ with heap := h, toks := tk })
theorem comp_one_no {elt iter c : Expr} {x : Str} {px : Pos} {scope : Scope} {cl : List (Str × Addr)} {pos : Pos} {Q : Value → Shared → Prop} (_F₀ : Fr h₀ L s.heap m)
    (hclos : closureFor scope env = pure cl) (hcell : ∀ y ∈ scope.names, y.2 ≠ .cell) (hkind : scope.kind = .function)
    (hnames : ∀ y ∈ scope.names, y.2 = .local → scope.names.lookup y.1 = some .local) (hx : scope.names.lookup x = some .local)
    (h : wpAny (model prog w) A (eval iter env) (OneSrcNo prog w A h₀ L m env c x scope cl Q) E s)
    (hs : ∀ x, foldedSetIterable iter env x = pure x := by intro _; rfl) :
    wpAny (model prog w) A (eval (.ListComp elt [⟨.Name x px, iter, [c], 0⟩] scope pos) env) Q E s := by
  rw [eval_ListComp]
  refine wpAny_comprehension_free (use := none) rfl hs hclos hkind hnames (wpAny_mono h (fun xv s₁ h₁ => ?_) fun _ _ e => e)
  obtain ⟨ax, its, k, news, rfl, hh, F, N, hmx, R⟩ := h₁
  have hl : s₁.heap.IsList ax its := ⟨_, (N _ hmx).1, rfl, k, rfl⟩
  have hlt : ax < s₁.heap.objs.size := Heap.lt_size (N _ hmx).1
  refine wpAny_pyIter_list hl ?_
  generalize hI : s₁.heap.objs.size = I at *
  obtain ⟨H1, hH1⟩ : ∃ H1, H1 = s₁.heap.push { cls := .type "list_iterator", data := .fields #[.ref ax, .int 0 0] } := ⟨_, rfl⟩
  rw [← hH1]
  have up : ∀ b o, s₁.heap.get? b = some o → H1.get? b = some o := fun b o e => hH1 ▸ Heap.get?_push_of_some _ e
  have hsz1 : H1.objs.size = I + 1 := by rw [hH1, Heap.size_push, hI]
  have hit1 : H1.IsListIter I ax 0 := ⟨_, by rw [hH1, ← hI]; exact Heap.get?_push_size _ rfl, rfl, rfl⟩
  have F1 : Fr h₀ L H1 m := F.keeps up
  have N1 : News h₀ L H1 news := N.grown up
  obtain ⟨RN, RQ⟩ := R { s₁ with heap := H1 } ⟨H1, rfl⟩
  have hLI : L ≠ I := by rw [← hI]; exact Nat.ne_of_lt F.ns.lt
  have fresh₀ : ∀ a, I ≤ a → h₀.get? a = none := fun a ha => by
    cases e : h₀.get? a with
    | none => rfl
    | some o' => have := Heap.lt_size (F.keep a o' e); rw [hI] at this; exact absurd this (Nat.not_lt.mpr ha)
  have hI₀ := fresh₀ I (Nat.le_refl _)
  have ltI : ∀ p ∈ news, p.1 < I := fun p hp => by rw [← hI]; exact Heap.lt_size (N p hp).1
  refine wpAny_newObj_type (wpAny_newFunctionEnv hcell (by intro y hy; simp at hy) (fun h₁ hns₁ hsb₁ => ?_) hkind)
  dsimp only at hns₁ hsb₁ ⊢
  generalize hH2 : H1.push { cls := .type "list", dict := none, data := .seq ([] : List Value).toArray } = H2 at hns₁ hsb₁ ⊢
  have hC : H2.objs.size = I + 2 := by rw [← hH2, Heap.size_push, hsz1]
  rw [hsz1]
  generalize hCe : H2.objs.size = C at *
  have old : ∀ b o, H1.get? b = some o → h₁.get? b = some o := fun b o e => hsb₁.extBut b o (by have q : @LT.lt Nat _ b (I + 1) := hsz1 ▸ Heap.lt_size e; show @Ne Nat _ _; omega) (Heap.get?_push_of_some _ (hH2 ▸ Heap.get?_push_of_some _ e))
  have hacc : h₁.get? (I + 1) = some (LCg.lst []) := hsb₁.extBut _ _ (by show @Ne Nat _ _; omega) (Heap.get?_push_of_some _ (hH2 ▸ hsz1 ▸ Heap.get?_push_size _ rfl))
  have hC₀ := fresh₀ C (by omega)
  have hD₀ := fresh₀ (I + 1) (by omega)
  have hLlt : @LT.lt Nat _ L I := by rw [← hI]; exact F.ns.lt
  have hCL : C ≠ L := by show @Ne Nat _ _; omega
  have hDL : I + 1 ≠ L := by show @Ne Nat _ _; omega
  have off₀ : LCg.Off3 I C (I + 1) news := LCg.Off3.of fun p hp => ⟨Nat.ne_of_lt (ltI p hp), by have q : @LT.lt Nat _ p.1 I := ltI p hp; show @Ne Nat _ _; omega, by have q : @LT.lt Nat _ p.1 I := ltI p hp; show @Ne Nat _ _; omega⟩
  have off3 := off₀.mem
  have hne : ((@Ne Nat I C) ∧ (@Ne Nat I (I + 1)) ∧ (@Ne Nat C (I + 1))) := ⟨by omega, by omega, by omega⟩
  have loop : ∀ s₃ : Shared, s₃ = { s₁ with heap := h₁, toks := s₁.toks + ([] : List (Str × Value)).length } →
      codeAny (model prog w) A (.compLoop (.ListComp elt [⟨.Name x px, iter, [c], 0⟩] scope pos) 0 (.ref I) (.ref (I + 1)) (compEnvC scope cl C env))
        (compPost (model prog w) A E none Q (.ref (I + 1)) C) s₃ := by
    rintro s₃ rfl
    refine kct_loop
      (fun k s' => ∃ h' tk i m', s' = { s₁ with heap := h', toks := tk } ∧ i ≤ its.size ∧ k = its.size + 1 - i ∧ h'.IsListIter I ax i ∧ Fr h₀ L h' m ∧ h'.Ns C m' ∧ News h₀ L h' ((I + 1, LCg.lst []) :: news)) ?_ (its.size + 1)
      ⟨h₁, _, 0, _, rfl, Nat.zero_le _, rfl, hit1.at fun o e => old _ _ e, F1.keeps old, hns₁, fun p hp => ?_⟩
    · rintro k s' ⟨h', tk, i, m', rfl, hi, rfl, hit', F', hn', N'⟩
      have hl' : h'.IsList ax its := ⟨_, (N' _ (.tail _ hmx)).1, rfl, _, rfl⟩
      cases hv : its[i]? with
      | some v =>
        have hilt : i < its.size := (Array.getElem?_eq_some_iff.mp hv).1
        refine wpAny_pyNext_list_item hit' hl' hv fun h₂ hit₂ hs₂ => ?_
        have RT := RN i v hv
        have F₂ : Fr h₀ L h₂ m := fr_extBut F' hs₂.extBut hLI.symm hI₀
        have N₂ : News h₀ L h₂ ((I + 1, LCg.lst []) :: news) := fun p hp => ⟨hs₂.extBut _ _ (by
          rcases List.mem_cons.mp hp with rfl | hp
          · exact fun q => hne.2.1 q.symm
          · exact (off3 p hp).1) (N' p hp).1, (N' p hp).2⟩
        have hn₂ := hn'.extBut hs₂.extBut (show C ≠ I from fun q => hne.1 q.symm)
        show wpAny (model prog w) A (letOwnedTupleGo (.Name x px) (.ref I) v) _ _ _
        rw [show letOwnedTupleGo (.Name x px) (.ref I) v = pure () from rfl]
        refine wpAny_pure (wpAny_assign_Name (wpAny_storeName_local (lookup_relabel_local hx) hn₂ (fun h₃ hn₃ hs₃ => ?_) (by simp [compEnvC, relabel, hkind])))
        have old3 : ∀ b o, b ≠ C → h₂.get? b = some o → h₃.get? b = some o := fun b o hb e => hs₃.extBut b o hb e
        obtain ⟨oC, heC, hoC⟩ := LCg.ns_obj hn₃
        obtain ⟨oI, hoI, hcI, hdI⟩ := hit₂
        have F₃ : Fr h₀ L h₃ m := F₂.change hs₃ hCL hC₀
        have N₃ : News h₀ L h₃ ((I, oI) :: (C, oC) :: (I + 1, LCg.lst []) :: news) := fun p hp => by
          rcases List.mem_cons.mp hp with rfl | hp
          · exact ⟨old3 _ _ hne.1 hoI, hLI.symm, hI₀⟩
          · rcases List.mem_cons.mp hp with rfl | hp
            · exact ⟨heC, hCL, hC₀⟩
            · have z := N₂ p hp
              refine ⟨old3 _ _ ?_ z.1, z.2⟩
              rcases List.mem_cons.mp hp with rfl | hp
              · exact fun q => hne.2.2 q.symm
              · exact (off3 p hp).2.1
        refine wpAny_mono (RT I oI C oC (I + 1) _ h₃ _ _ hoC (by simp) F₃ N₃ off₀ hne) (fun b s₄ h₄ => ?_) fun _ _ e => e
        obtain ⟨rfl, h₄, tk₄, rfl, F₄, N₄⟩ := h₄
        refine ⟨its.size + 1 - (i + 1), by omega, h₄, tk₄, i + 1, _, rfl, hilt, rfl, ⟨oI, (N₄ _ (.head _)).1, hcI, hdI⟩, F₄, hoC.ns (N₄ _ (.tail _ (.head _))).1, fun p hp => N₄ p (.tail _ (.tail _ hp))⟩
      | none =>
        refine wpAny_pyNext_list_end hh hit' hl' hv fun h₂ hs₂ => ?_
        refine ⟨m', hn'.extBut hs₂ (show C ≠ I from fun q => hne.1 q.symm), fun h'' hs'' => ?_⟩
        refine RQ (I + 1) h'' tk ((fr_extBut F' hs₂ hLI.symm hI₀).change hs'' hCL hC₀) (fun p hp => ?_) (fun p hp => (off3 p hp).2.2)
        refine ⟨hs''.extBut _ _ ?_ (hs₂ _ _ ?_ (N' p hp).1), (N' p hp).2⟩
        · rcases List.mem_cons.mp hp with rfl | hp
          · exact fun q => hne.2.2 q.symm
          · exact (off3 p hp).2.1
        · rcases List.mem_cons.mp hp with rfl | hp
          · exact fun q => hne.2.1 q.symm
          · exact (off3 p hp).1
    · rcases List.mem_cons.mp hp with rfl | hp
      · exact ⟨hacc, hDL, hD₀⟩
      · exact ⟨old _ _ (N1 p hp).1, (N1 p hp).2⟩
  exact codeAny_compStart_list (loop _ rfl) (wpAny_pyIter_listiter (hit1.at fun o e => old _ _ e) (loop _ rfl))
theorem s_itemL {value slice : Expr} {l : Addr} {items : List Value} {k : Int} {u : Tok} {v : Value} {Q : Value → Shared → Prop} (hl : s.heap.IsList l items.toArray) (h0 : 0 ≤ k) (hhi : k < 2 ^ 63) (hx : items[k.toNat]? = some v) (h : Q v s)
    (hs : subscripted slice false (.ref l) (.int k u) = operate [.ref l, .int k u] (getItem (.ref l) (.int k u)) := by with_unfolding_all rfl) :
    wpAny (model prog w) A (subscriptTail value slice (.ref l) (.int k u)) Q E s :=
  tail_any hl.typeIs slot_list_getitem.lookup (wpAny_getItem_list hl h0 hhi (by simpa using hx) h) hs
end
theorem news_drop2 {h₀ h : Heap} {L : Addr} {p q : Addr × Obj} {l : Led} (N : News h₀ L h (p :: q :: l)) : News h₀ L h (p :: l) := fun y hy => by
  rcases List.mem_cons.mp hy with rfl | hy
  · exact N _ (.head _)
  · exact N _ (.tail _ (.tail _ hy))
theorem off_one {x : Addr} {l : Led} (h : ∀ p ∈ l, p.1 ≠ x) : ∀ p ∈ l, p.1 ∉ [x] := fun p hp hm => h p hp (List.mem_singleton.mp hm)
end Mine

-- Def13
open PySem PySem.W PyProof.Rows PySem.Calls
set_option Elab.async false
namespace Mine
/-- a told name's reference -/
def refOf (V : Str) : Option Str :=
  if (V == sOf "lt") = true then some (sOf "&#60;") else if (V == sOf "gt") = true then some (sOf "&#62;") else if (V == sOf "amp") = true then some (sOf "&#38;")
  else if (V == sOf "apos") = true then some (sOf "&#39;") else if (V == sOf "quot") = true then some (sOf "&#34;") else none
theorem s_strOf {prog : Program} {w : World} {A : Around} {E : Value → Shared → Prop} {s : Shared} {Q : Value → Shared → Prop} {a : Int} {t : Tok} (z : Str) (ha : a.natAbs.log2 < 1920) (hz : (toString a : Str) = z) (h : Q (.str z s.toks) { s with toks := s.toks + 1 }) : wpAny (model prog w) A (call (.type "str") [.int a t]) Q E s :=
  PySem.P.str_of_int ha (by rw [hz]; exact h)
theorem ref_1 {V : Str} (h : (V == sOf "lt") = true) : refOf V = some (sOf "&#" ++ sOf "60" ++ sOf ";") := by unfold refOf; rw [if_pos h]; decide +kernel
theorem ref_2 {V : Str} (h0 : (V == sOf "lt") = false) (h : (V == sOf "gt") = true) : refOf V = some (sOf "&#" ++ sOf "62" ++ sOf ";") := by unfold refOf; rw [if_neg (by rw [h0]; decide), if_pos h]; decide +kernel
theorem ref_3 {V : Str} (h0 : (V == sOf "lt") = false) (h1 : (V == sOf "gt") = false) (h : (V == sOf "amp") = true) : refOf V = some (sOf "&#" ++ sOf "38" ++ sOf ";") := by unfold refOf; rw [if_neg (by rw [h0]; decide), if_neg (by rw [h1]; decide), if_pos h]; decide +kernel
theorem ref_4 {V : Str} (h0 : (V == sOf "lt") = false) (h1 : (V == sOf "gt") = false) (h2 : (V == sOf "amp") = false) (h : (V == sOf "apos") = true) : refOf V = some (sOf "&#" ++ sOf "39" ++ sOf ";") := by unfold refOf; rw [if_neg (by rw [h0]; decide), if_neg (by rw [h1]; decide), if_neg (by rw [h2]; decide), if_pos h]; decide +kernel
theorem ref_5 {V : Str} (h0 : (V == sOf "lt") = false) (h1 : (V == sOf "gt") = false) (h2 : (V == sOf "amp") = false) (h3 : (V == sOf "apos") = false) (h : (V == sOf "quot") = true) : refOf V = some (sOf "&#" ++ sOf "34" ++ sOf ";") := by unfold refOf; rw [if_neg (by rw [h0]; decide), if_neg (by rw [h1]; decide), if_neg (by rw [h2]; decide), if_neg (by rw [h3]; decide), if_pos h]; decide +kernel
theorem ref_6 {V : Str} (h0 : (V == sOf "lt") = false) (h1 : (V == sOf "gt") = false) (h2 : (V == sOf "amp") = false) (h3 : (V == sOf "apos") = false) (h : (V == sOf "quot") = false) : refOf V = none := by unfold refOf; rw [if_neg (by rw [h0]; decide), if_neg (by rw [h1]; decide), if_neg (by rw [h2]; decide), if_neg (by rw [h3]; decide), if_neg (by rw [h]; decide)]
end Mine

-- Def14
open PySem PySem.W PyProof.Rows PySem.Calls
set_option Elab.async false
namespace Mine
theorem ref_l1 (t : Tok) : Value.str (Str.ofString "&#60;") t = optV (refOf (Str.ofString "lt")) t := by rw [show refOf (Str.ofString "lt") = some (Str.ofString "&#60;") by decide +kernel]; rfl
theorem ref_l2 (t : Tok) : Value.str (Str.ofString "&#62;") t = optV (refOf (Str.ofString "gt")) t := by rw [show refOf (Str.ofString "gt") = some (Str.ofString "&#62;") by decide +kernel]; rfl
theorem ref_l3 (t : Tok) : Value.str (Str.ofString "&#38;") t = optV (refOf (Str.ofString "amp")) t := by rw [show refOf (Str.ofString "amp") = some (Str.ofString "&#38;") by decide +kernel]; rfl
theorem ref_l4 (t : Tok) : Value.str (Str.ofString "&#34;") t = optV (refOf (Str.ofString "quot")) t := by rw [show refOf (Str.ofString "quot") = some (Str.ofString "&#34;") by decide +kernel]; rfl
theorem ref_l5 (t : Tok) : Value.str (Str.ofString "&#39;") t = optV (refOf (Str.ofString "apos")) t := by rw [show refOf (Str.ofString "apos") = some (Str.ofString "&#39;") by decide +kernel]; rfl
theorem ref_l6 : Value.none = optV (refOf (Str.ofString "LT")) 0 := by rw [show refOf (Str.ofString "LT") = none by decide +kernel]; rfl
theorem ref_l7 : Value.none = optV (refOf (Str.ofString "")) 0 := by rw [show refOf (Str.ofString "") = none by decide +kernel]; rfl
end Mine

-- W14
open PySem PySem.W PyProof.Rows PySem.Calls PySem.Spec
set_option Elab.async false
namespace Mine
section
variable {M : Model} {A : Around} {E : Value → Shared → Prop} {s : Shared} {h₀ : Heap} {L : Addr} {env : Env} {news : Led}
/-- a comprehension's free name, its cell on the ledger -/
theorem ld_free {x : Str} {pos : Pos} {c C : Addr} {o : Obj} {v : Value} {scope : Scope} {cl : List (Str × Addr)} {Q : Value → Shared → Prop} (N : News h₀ L s.heap news) (hm : (c, o) ∈ news) (hd : o.data = .cell (some v)) (hc : (compEnvC scope cl C env).cells.lookup x = some c) (h : Q v s)
    (hk : (compEnvC scope cl C env).scope.kind = .function) (hx : (compEnvC scope cl C env).kindOf x = some .free) (hb : (x == ("__debug__" : Str)) = false := by decide) (hn : (x == ("__classdict__" : Str)) = false := by decide) :
    wpAny M A (eval (.Name x pos) (compEnvC scope cl C env)) Q E s := wpAny_Name (wpAny_loadName_free hk hx hc ⟨o, (N _ hm).1, hd⟩ h hn) hb
abbrev bodySc : Scope := { kind := ScopeKind.function, names := [(Str.ofString ".0", NameKind.local), (Str.ofString "turn", NameKind.local), (Str.ofString "_law_one", NameKind.globalImplicit), (Str.ofString "pieces", NameKind.free), (Str.ofString "source", NameKind.free)], isGenerator := false, isCoroutine := false }
theorem body_kinds {C : Addr} {cl : List (Str × Addr)} (hk : env.scope.kind = .function) (h1 : env.kindOf (Str.ofString "source") = some .cell) (h2 : env.kindOf (Str.ofString "pieces") = some .cell) :
    (compEnvC bodySc cl C env).kindOf (Str.ofString "source") = some .cell ∧ (compEnvC bodySc cl C env).kindOf (Str.ofString "pieces") = some .cell := by
  have e : (compEnvC bodySc cl C env).scope.names = [(Str.ofString ".0", NameKind.local), (Str.ofString "turn", NameKind.local), (Str.ofString "_law_one", NameKind.globalImplicit), (Str.ofString "pieces", NameKind.cell), (Str.ofString "source", NameKind.cell)] := by
    simp [compEnvC, relabel, hk, h1, h2]
  constructor
  · unfold Env.kindOf; rw [e]; rfl
  · unfold Env.kindOf; rw [e]; rfl
/-- a comprehension's name that is a cell of the frame around it, on the ledger -/
theorem ld_cell {x : Str} {pos : Pos} {c C : Addr} {o : Obj} {v : Value} {scope : Scope} {cl : List (Str × Addr)} {Q : Value → Shared → Prop} (N : News h₀ L s.heap news) (hm : (c, o) ∈ news) (hd : o.data = .cell (some v)) (hc : (compEnvC scope cl C env).cells.lookup x = some c) (h : Q v s)
    (hk : (compEnvC scope cl C env).scope.kind = .function) (hx : (compEnvC scope cl C env).kindOf x = some .cell) (hb : (x == ("__debug__" : Str)) = false := by decide) :
    wpAny M A (eval (.Name x pos) (compEnvC scope cl C env)) Q E s := wpAny_Name (wpAny_loadName_cell hk hx hc ⟨o, (N _ hm).1, hd⟩ h) hb
end
theorem strs_split : ∀ {ys : List Value} {l : List Str}, (∀ y ∈ ys, ∃ w tw, y = Value.str w tw ∧ w ∈ l) → ∃ lt : List (Str × Tok), ys = strValues lt ∧ lt.length = ys.length ∧ ∀ p ∈ lt, p.1 ∈ l
  | [], l, _ => ⟨[], rfl, rfl, fun p hp => nomatch hp⟩
  | y :: r, l, h => by
    obtain ⟨lt, e1, e2, e3⟩ := strs_split (ys := r) (l := l) fun z hz => h z (.tail _ hz)
    obtain ⟨w, tw, rfl, hw⟩ := h y (.head _)
    refine ⟨(w, tw) :: lt, by rw [e1]; rfl, by simp [e2], fun p hp => ?_⟩
    rcases List.mem_cons.mp hp with rfl | hp
    · exact hw
    · exact e3 p hp
theorem s_joinAll {prog : Program} {w : World} {A : Around} {E : Value → Shared → Prop} {s : Shared} {h₀ : Heap} {L : Addr} {news : Led} {D : Addr} {ys : List Value} {l : List Str} {t : Tok} {Q : Value → Shared → Prop} (N : News h₀ L s.heap ((D, LCg.lst ys) :: news)) (hys : ∀ y ∈ ys, ∃ w tw, y = Value.str w tw ∧ w ∈ l) (hlen : ys.length ≤ 4) (hl : ∀ w ∈ l, w.length ≤ 40)
    (h : ∀ ws t k, ws.length ≤ 4 → (∀ w ∈ ws, w ∈ l) → Q (.str (Txt.join (Str.ofString "") ws) t) { s with toks := k }) : wpAny (model prog w) A (call (.builtin "str.join") [.str (Str.ofString "") t, .ref D]) Q E s := by
  obtain ⟨lt, e1, e2, e3⟩ := strs_split hys
  have hm : ∀ w ∈ lt.map (·.1), w ∈ l := fun w hw => by
    obtain ⟨p, hp, rfl⟩ := List.mem_map.mp hw
    exact e3 p hp
  refine SC.join (l := lt) (texts := lt.map (·.1)) ⟨_, (N _ (.head _)).1, rfl, ys.length, by rw [← e1]⟩ rfl ?_ fun t' k => h _ t' k (by rw [List.length_map, e2]; exact hlen) hm
  unfold JoinOk
  rw [StrLaws.joinFits (B := 40) (fun y hy => hl y (hm y hy))]
  · rfl
  · have h1 : (lt.map (·.1)).length ≤ 4 := by rw [List.length_map, e2]; exact hlen
    have h2 : (Str.ofString "").length = 0 := rfl
    rw [h2]; omega
theorem fr_back {h₀ gh h : Heap} {L : Addr} {m : Str → Option Value} (T : KtsTurn [] h₀ gh) (F : Fr gh L h m) : Fr h₀ L h m :=
  ⟨F.ns, fun b o e => F.keep b o (T.other b o e fun hm => nomatch hm), by have q := F.above; rw [T.size] at q; exact q⟩
end Mine

-- Def15
open PySem PySem.W PyProof.Rows PySem.Calls
set_option Elab.async false
namespace Mine
abbrev openL : List Str := [sOf "<?xml ", sOf "<?xml\t", sOf "<?xml\n", sOf "<?xml ", sOf "<?xmlx ", sOf "<?XML ", sOf " <?xml ", sOf "<? xml"]
abbrev pieceL : List Str := [sOf "x", sOf "\x0d\n", sOf "\x0d", sOf "\n", sOf "?>", sOf "<?xml ", sOf "\u00e9", sOf "\x01"]
abbrev anySp (O : Str) : Bool := [Str.ofString " ", Str.ofString "\t", Str.ofString "\n"].any fun x => x == Txt.slice O (some 5) none
/-- what is asked of the drawn parts -/
structure LawFacts (O H D : Str) (b : Bool) : Prop where
  hO : O.length ≤ 40
  hH : H.length ≤ 1000
  hD : D.length ≤ 100
  p1 : (Txt.slice O none (some 5) == Str.ofString "<?xml") = true → anySp O = true → b = true → passHead (O ++ H ++ D) 0 = some ((O ++ H).length : Int)
  p2 : (Txt.slice O none (some 5) == Str.ofString "<?xml") = true → anySp O = true → b = false → passHead (O ++ H ++ D) 0 = none
  q1 : (Txt.slice O none (some 5) == Str.ofString "<?xml") = true → anySp O = true → b = true → bare (O ++ H ++ D) = some D
  q2 : (Txt.slice O none (some 5) == Str.ofString "<?xml") = true → anySp O = true → b = false → bare (O ++ H ++ D) = none
  q3 : anySp O = false → bare (O ++ H ++ D) = some (O ++ H ++ D)
  q4 : (Txt.slice O none (some 5) == Str.ofString "<?xml") = false → bare (O ++ H ++ D) = some (O ++ H ++ D)
  ob : ∀ M, M = Str.ofString "" ∨ M = Str.ofString "\ufeff" → outerOf (M ++ (O ++ H ++ D)) = outLaw (bare (O ++ H ++ D))
end Mine

-- P1
open PySem PySem.W PyProof.Rows PySem.Calls
set_option Elab.async false
namespace Mine
theorem str_of_lst {T : Str} {l : List Nat} (h : lst T = l) : T = ⟨l.toArray⟩ := by
  apply Str.ext'; rw [← h]
def spc (c : Nat) : Bool := decide (c ∈ lst (Str.ofString " \t\n\x0d"))
theorem in_one (A : Str) (c : Nat) : inText A ⟨#[c]⟩ = decide (c ∈ lst A) := StrLaws.found_one A c
/-- from k on the text T reads R -/
def Pl (T : Str) (k : Int) (R : List Nat) : Prop := ∃ pre : List Nat, lst T = pre ++ R ∧ k = (pre.length : Int)
theorem Pl.start (T : Str) : Pl T 0 (lst T) := ⟨[], rfl, rfl⟩
theorem Pl.skip {T : Str} {k : Int} {a R : List Nat} (h : Pl T k (a ++ R)) : Pl T (k + (a.length : Int)) R := by
  obtain ⟨pre, h1, rfl⟩ := h
  exact ⟨pre ++ a, by rw [h1, List.append_assoc], by simp⟩
theorem Pl.skip1 {T : Str} {k : Int} {a : Nat} {R : List Nat} (h : Pl T k (a :: R)) : Pl T (k + 1) R := Pl.skip (a := [a]) h
theorem Pl.len {T : Str} {k : Int} {R : List Nat} (h : Pl T k R) : 0 ≤ k ∧ k + (R.length : Int) = T.length := by
  obtain ⟨pre, h1, rfl⟩ := h
  have := congrArg List.length h1
  rw [lst_len] at this
  simp at this
  omega
theorem Pl.char {T : Str} {k : Int} {R : List Nat} (h : Pl T k R) : Txt.charAt T k = R[0]? := by
  have hl := h.len
  obtain ⟨pre, h1, rfl⟩ := h
  unfold Txt.charAt
  cases R with
  | nil =>
    have e : ((pre.length : Nat) : Int) = T.length := by simpa using hl.2
    have : PySem.seqIndex? ((pre.length : Nat) : Int) T.length = none := by
      unfold PySem.seqIndex?
      rw [e]
      have h1 : ¬ ((T.length : Int) < 0) := by omega
      simp
      omega
    rw [this]; rfl
  | cons c r =>
    simp only [List.length_cons] at hl
    rw [StrLaws.seqIndex_nonneg (by omega) (by omega)]
    show T.cps[pre.length]? = some c
    have : (lst T)[pre.length]? = some c := by rw [h1]; simp
    simpa using this
theorem Pl.isSp {T : Str} {k : Int} {R : List Nat} (h : Pl T k R) : isSp T k = (R[0]?.map spc).getD false := by
  have hc := h.char
  have hl := h.len
  unfold Mine.isSp
  cases R with
  | nil =>
    have : ¬ k < T.length := by simp at hl; omega
    simp [this]
  | cons c r =>
    have : k < T.length := by simp at hl; omega
    have e : Txt.item T k = ⟨#[c]⟩ := by unfold Txt.item; rw [hc]; rfl
    rw [decide_eq_true this, e]
    show (true && inText (Str.ofString " \t\n\x0d") ⟨#[c]⟩) = spc c
    rw [in_one]; rfl
/-- spaces are passed -/
theorem Pl.spaces {T : Str} {R : List Nat} (hR : (R[0]?.map spc).getD false = false) : ∀ {g : List Nat} {k : Int}, Pl T k (g ++ R) → (∀ c ∈ g, spc c = true) → spEnd T k = k + (g.length : Int)
  | [], k, h, _ => by
    have h' : Pl T k R := h
    rw [spEnd_stop (by rw [h'.isSp]; exact hR)]; simp
  | c :: g, k, h, hg => by
    have h' : Pl T k (c :: (g ++ R)) := h
    have e : Mine.isSp T k = true := by rw [h'.isSp]; exact hg c (.head _)
    rw [← spEnd_step e, Pl.spaces hR (g := g) h'.skip1 fun x hx => hg x (.tail _ hx)]
    simp only [List.length_cons]; omega
theorem Pl.starts {T W : Str} {k : Int} {R : List Nat} (h : Pl T k R) : Txt.startswith3 T W k = (lst W).isPrefixOf R := by
  have hl := h.len
  obtain ⟨pre, h1, rfl⟩ := h
  unfold Txt.startswith3
  rw [fromIndex_nn hl.1, Int.toNat_natCast, StrLaws.subAt_eq]
  have e : T.cps.toList.drop pre.length = R := by
    show (lst T).drop pre.length = R
    rw [h1]; simp
  rw [e]
  rw [Bool.eq_iff_iff]
  simp only [Bool.and_eq_true, decide_eq_true_eq, beq_iff_eq, List.isPrefixOf_iff_prefix]
  have hW : (lst W).length = W.length := lst_len W
  constructor
  · intro ⟨_, h3⟩
    exact List.prefix_iff_eq_take.mpr (by rw [hW]; exact h3.symm)
  · intro h3
    have h4 := List.prefix_iff_eq_take.mp h3
    rw [hW] at h4
    refine ⟨?_, h4.symm⟩
    have := h3.length_le
    omega
theorem isPrefix_self (a b : List Nat) : a.isPrefixOf (a ++ b) = true := by simp
theorem Pl.slice {T : Str} {k : Int} {v R : List Nat} (h : Pl T k (v ++ R)) : Txt.slice T (some k) (some (k + (v.length : Int))) = ⟨v.toArray⟩ := by
  have hl := h.len
  obtain ⟨pre, h1, rfl⟩ := h
  rw [slice_int hl.1 (by omega)]
  show (⟨(((lst T).drop _).take _).toArray⟩ : Str) = _
  rw [h1]
  have : ((pre.length : Int) + (v.length : Int)).toNat - (pre.length : Int).toNat = v.length := by omega
  rw [this, Int.toNat_natCast]
  simp
theorem Pl.quote {T : Str} {k : Int} {q : Nat} {R : List Nat} (h : Pl T k (q :: R)) : quoteAt T k = ⟨#[q]⟩ := Pl.slice (v := [q]) h
theorem Pl.getD {T : Str} {k : Int} {R : List Nat} (h : Pl T k R) (i : Nat) (c : Nat) (hc : R[i]? = some c) : T.cps.getD (k.toNat + i) 0 = c := by
  obtain ⟨pre, h1, rfl⟩ := h
  refine StrLaws.getD_of_getElem? ?_
  show (lst T)[_]? = _
  rw [h1, Int.toNat_natCast, List.getElem?_append_right (by omega)]
  simpa using hc
theorem Pl.find {T : Str} {k : Int} {q : Nat} {v R : List Nat} (h : Pl T k (v ++ q :: R)) (hv : q ∉ v) : Txt.find3 T ⟨#[q]⟩ k = k + (v.length : Int) := by
  have hl := h.len
  simp only [List.length_append, List.length_cons] at hl
  have hq : T.cps.getD (k.toNat + v.length) 0 = q := h.getD v.length q (by simp)
  rcases StrLaws.find3_spec T q k with ⟨_, hn⟩ | ⟨j, e, h1, h2, h3, h4⟩
  · rw [fromIndex_nn hl.1] at hn
    exact absurd hq (hn _ (by omega) (by omega))
  · rw [fromIndex_nn hl.1] at h1 h4
    rw [e]
    rcases Nat.lt_trichotomy j (k.toNat + v.length) with hj | hj | hj
    · exfalso
      obtain ⟨i, rfl⟩ := Nat.exists_eq_add_of_le h1
      have hi : i < v.length := by omega
      have := h.getD i v[i] (by rw [List.getElem?_append_left hi]; exact List.getElem?_eq_getElem hi)
      rw [h3] at this
      exact hv (this ▸ List.getElem_mem hi)
    · omega
    · exact absurd hq (h4 _ (by omega) hj)
theorem Pl.find_none {T : Str} {k : Int} {q : Nat} {R : List Nat} (h : Pl T k R) (hR : q ∉ R) : Txt.find3 T ⟨#[q]⟩ k = -1 := by
  have hl := h.len
  rcases StrLaws.find3_spec T q k with ⟨e, _⟩ | ⟨j, e, h1, h2, h3, h4⟩
  · exact e
  · exfalso
    rw [fromIndex_nn hl.1] at h1
    obtain ⟨i, rfl⟩ := Nat.exists_eq_add_of_le h1
    have hi : i < R.length := by omega
    have := h.getD i R[i] (List.getElem?_eq_getElem hi)
    rw [h3] at this
    exact hR (this ▸ List.getElem_mem hi)
/-- an equals sign and the spaces around it -/
theorem Pl.equals {T : Str} {k : Int} {g g' R : List Nat} (h : Pl T k (g ++ 61 :: (g' ++ R))) (hg : ∀ c ∈ g, spc c = true) (hg' : ∀ c ∈ g', spc c = true) (hR : (R[0]?.map spc).getD false = false) :
    eqEnd T k = some (k + (g.length : Int) + 1 + (g'.length : Int)) ∧ Pl T (k + (g.length : Int) + 1 + (g'.length : Int)) R := by
  have e1 : spEnd T k = k + (g.length : Int) := Pl.spaces (R := 61 :: (g' ++ R)) (show spc 61 = false by decide) h hg
  have h2 := h.skip
  have h3 := h2.skip1
  have e2 := Pl.spaces hR h3 hg'
  have hst : Txt.startswith3 T (Str.ofString "=") (spEnd T k) = true := by rw [e1, h2.starts]; rfl
  refine ⟨?_, h3.skip⟩
  rw [eqEnd_yes hst, e1]
  have : ((Str.ofString "=").length : Int) = 1 := rfl
  rw [this, e2]
/-- a named value, well quoted -/
theorem word_ok {T W : Str} {k : Int} {g g' v R : List Nat} {q : Nat} (h : Pl T k (lst W ++ (g ++ 61 :: (g' ++ q :: (v ++ q :: R))))) (hg : ∀ c ∈ g, spc c = true) (hg' : ∀ c ∈ g', spc c = true) (hq : q = 34 ∨ q = 39) (hv : q ∉ v) :
    ∃ b, wordAt T W k = some (⟨v.toArray⟩, b) ∧ Pl T b R := by
  have hs : Txt.startswith3 T W k = true := by rw [h.starts]; exact isPrefix_self _ _
  have h1 := h.skip
  rw [lst_len] at h1
  obtain ⟨e1, h2⟩ := h1.equals hg hg' (by rcases hq with rfl | rfl; exact (show spc 34 = false by decide); exact (show spc 39 = false by decide))
  have hqt := h2.quote
  have h3 := h2.skip1
  have hf := h3.find hv
  generalize k + (W.length : Int) + (g.length : Int) + 1 + (g'.length : Int) = b at e1 h2 hqt h3 hf
  refine ⟨b + 1 + (v.length : Int) + 1, ?_, h3.skip.skip1⟩
  have hl := h3.len
  have hQ : quotes T b = true := quotes_yes (by rw [hqt]; rcases hq with rfl | rfl; exact .inl (by decide); exact .inr (by decide)) (by rw [hqt, hf]; omega)
  rw [wordAt_yes hs e1 hQ, hqt, hf]
  have e2 : quotedIn T b = ⟨v.toArray⟩ := by unfold quotedIn; rw [hqt, hf]; exact h3.slice
  rw [e2]; rfl
theorem word_no {T W : Str} {k : Int} {R : List Nat} (h : Pl T k R) (hn : (lst W).isPrefixOf R = false) : wordAt T W k = none := wordAt_no1 (by rw [h.starts]; exact hn)
/-- a named value whose quote is not closed in its place -/
theorem word_open {T W : Str} {k : Int} {g g' v R : List Nat} {q : Nat} (h : Pl T k (lst W ++ (g ++ 61 :: (g' ++ q :: (v ++ R))))) (hg : ∀ c ∈ g, spc c = true) (hg' : ∀ c ∈ g', spc c = true) (hq : q = 34 ∨ q = 39) (hv : q ∉ v)
    (hR : q ∉ R ∨ ∃ u R', R = u ++ q :: R' ∧ q ∉ u ∧ 61 ∈ u) :
    wordAt T W k = none ∨ ∃ V b, wordAt T W k = some (V, b) ∧ 61 ∈ lst V := by
  rcases hR with hR | ⟨u, R', rfl, hu, h61⟩
  · left
    have hs : Txt.startswith3 T W k = true := by rw [h.starts]; exact isPrefix_self _ _
    have h1 := h.skip
    rw [lst_len] at h1
    obtain ⟨e1, h2⟩ := h1.equals hg hg' (by rcases hq with rfl | rfl; exact (show spc 34 = false by decide); exact (show spc 39 = false by decide))
    have hqt := h2.quote
    have h3 := h2.skip1
    have hf := h3.find_none (q := q) (by simp [hv, hR])
    exact wordAt_no3 e1 (quotes_no2 (by rw [hqt, hf]; decide))
  · right
    have h' : Pl T k (lst W ++ (g ++ 61 :: (g' ++ q :: ((v ++ u) ++ q :: R')))) := by simpa using h
    obtain ⟨b, e, _⟩ := word_ok h' hg hg' hq (by simp [hv, hu])
    exact ⟨_, b, e, by simp [h61]⟩
theorem ver_61 {V : Str} (h : 61 ∈ lst V) : isVersion V = false := by
  cases h0 : (Txt.slice V none (some 2) != Str.ofString "1.") with
  | true => exact ver_1 h0
  | false =>
    by_cases h2 : (V.length : Int) < 3
    · exact ver_2 h2
    · refine ver_3 ?_
      have hl : V.cps.toList.length = V.length := lst_len V
      have e1 : Txt.slice V none (some 2) = ⟨((lst V).take 2).toArray⟩ := by
        have := StrLaws.sliceText_to (x := V) (j := 2) (by omega)
        exact this
      have e2 : Txt.slice V (some 2) none = ⟨((lst V).drop 2).toArray⟩ := by
        have := StrLaws.sliceText_from (x := V) (i := 2) (by omega)
        show PySem.StrLaws.sliceText _ _ _ = _
        rw [this]
        congr 2
        show (((lst V).drop 2).take _) = _
        exact List.take_of_length_le (by simp only [List.length_drop]; show _ ≤ ((V.cps.toList.length : Int) - 2).toNat; show V.cps.toList.length - 2 ≤ _; omega)
      rw [e2]
      have h3 : (lst V).take 2 = [49, 46] := by
        have := q_eq h0
        rw [e1] at this
        have := congrArg (fun x : Str => x.cps.toList) this
        exact this
      have h4 : 61 ∈ (lst V).drop 2 := by
        rw [← List.take_append_drop 2 (lst V), h3] at h
        simpa using h
      exact List.all_eq_false.mpr ⟨61, by simpa using h4, by decide +kernel⟩
theorem enc_61 {V : Str} (h : 61 ∈ lst V) : isEnc V = false := enc_3 (List.all_eq_false.mpr ⟨61, h, by decide +kernel⟩)
end Mine

-- P2
open PySem PySem.W PyProof.Rows PySem.Calls
set_option Elab.async false
namespace Mine
/-- from here on each missing quote is closed, if at all, behind an equals sign -/
def Closed (R : List Nat) : Prop := ∀ q, q = 34 ∨ q = 39 → q ∉ R ∨ ∃ u R', R = u ++ q :: R' ∧ q ∉ u ∧ 61 ∈ u
def noQ (l : List Nat) : Bool := l.all fun c => c != 34 && c != 39
theorem noQ_mem {l : List Nat} (h : noQ l = true) {q : Nat} (hq : q = 34 ∨ q = 39) : q ∉ l := by
  intro hm
  have := List.all_eq_true.mp h q hm
  rcases hq with rfl | rfl <;> simp at this
theorem noQ_app {a b : List Nat} : noQ (a ++ b) = (noQ a && noQ b) := by unfold noQ; rw [List.all_append]
theorem closed_eq {a R : List Nat} (ha : noQ a = true) (h61 : 61 ∈ a) : Closed (a ++ R) := by
  intro q hq
  by_cases hm : q ∈ R
  · right
    obtain ⟨u, R', e, hu⟩ := List.eq_append_cons_of_mem hm
    refine ⟨a ++ u, R', by rw [e]; simp, ?_, by simp [h61]⟩
    intro h
    rcases List.mem_append.mp h with h | h
    · exact noQ_mem ha hq h
    · exact hu h
  · left
    intro h
    rcases List.mem_append.mp h with h | h
    · exact noQ_mem ha hq h
    · exact hm h
theorem closed_none {R : List Nat} (h : noQ R = true) : Closed R := fun q hq => .inl (noQ_mem h hq)
/-- the shape of a drawn word -/
theorem told_shape {W : Str} {rs ws : List Str} {t : Str} {r : Bool} (h : Told W rs ws t r) : ∃ (g : List Nat) (q : Nat) (v : Str) (b : Bool), (∀ c ∈ g, spc c = true) ∧ noQ g = true ∧ (q = 34 ∨ q = 39) ∧ ((v ∈ rs ∧ b = true) ∨ (v ∈ ws ∧ b = false)) ∧
    ((lst t = lst W ++ (g ++ 61 :: (g ++ q :: (lst v ++ [q]))) ∧ r = b) ∨ (lst t = lst W ++ (g ++ 61 :: (g ++ q :: lst v)) ∧ r = false)) := by
  obtain ⟨gap, hg, q, hq, v, b, hv, ht⟩ := h
  have hgs : (∀ c ∈ lst gap, spc c = true) ∧ noQ (lst gap) = true := by
    simp only [List.mem_cons, List.not_mem_nil, or_false] at hg
    rcases hg with rfl | rfl | rfl <;> constructor <;> decide
  have hqs : ∃ k, (k = 34 ∨ k = 39) ∧ lst q = [k] := by
    simp only [List.mem_cons, List.not_mem_nil, or_false] at hq
    rcases hq with rfl | rfl
    · exact ⟨39, .inr rfl, rfl⟩
    · exact ⟨34, .inl rfl, rfl⟩
  obtain ⟨k, hk, ek⟩ := hqs
  have e61 : lst (sOf "=") = [61] := rfl
  have e0 : lst (sOf "") = [] := rfl
  refine ⟨lst gap, k, v, b, hgs.1, hgs.2, hk, hv, ?_⟩
  rcases ht with ⟨rfl, hr⟩ | ⟨rfl, hr⟩
  · exact .inl ⟨by simp only [lst_app, ek, e61, List.append_assoc, List.cons_append, List.nil_append], hr⟩
  · exact .inr ⟨by simp only [lst_app, ek, e61, e0, List.append_assoc, List.cons_append, List.nil_append, List.append_nil], hr⟩
/-- reading a drawn word -/
theorem told_read {W : Str} {rs ws : List Str} {t : Str} {r : Bool} {T : Str} {k : Int} {R : List Nat} {test : Str → Bool} (h : Told W rs ws t r) (p : Pl T k (lst t ++ R)) (hR : Closed R)
    (hq : ∀ v ∈ rs ++ ws, noQ (lst v) = true) (h1 : ∀ v ∈ rs, test v = true) (h2 : ∀ v ∈ ws, test v = false) (h3 : ∀ V, 61 ∈ lst V → test V = false) :
    (r = true ∧ ∃ v b, wordAt T W k = some (v, b) ∧ test v = true ∧ Pl T b R) ∨ (r = false ∧ (wordAt T W k = none ∨ ∃ v b, wordAt T W k = some (v, b) ∧ test v = false)) := by
  obtain ⟨g, q, v, b, hg, _, hqq, hv, ht⟩ := told_shape h
  have hvq : q ∉ lst v := noQ_mem (hq v (by rcases hv with ⟨h, _⟩ | ⟨h, _⟩ <;> simp [h])) hqq
  rcases ht with ⟨et, rfl⟩ | ⟨et, rfl⟩
  · have p' : Pl T k (lst W ++ (g ++ 61 :: (g ++ q :: (lst v ++ q :: R)))) := by rw [et] at p; simpa using p
    obtain ⟨b', e, pb⟩ := word_ok p' hg hg hqq hvq
    have ev : (⟨(lst v).toArray⟩ : Str) = v := by apply Str.ext'; simp
    rw [ev] at e
    rcases hv with ⟨hm, rfl⟩ | ⟨hm, rfl⟩
    · exact .inl ⟨rfl, v, b', e, h1 v hm, pb⟩
    · exact .inr ⟨rfl, .inr ⟨v, b', e, h2 v hm⟩⟩
  · have p' : Pl T k (lst W ++ (g ++ 61 :: (g ++ q :: (lst v ++ R)))) := by rw [et] at p; simpa using p
    rcases word_open p' hg hg hqq hvq (hR q hqq) with e | ⟨V, b', e, h61⟩
    · exact .inr ⟨rfl, .inl e⟩
    · exact .inr ⟨rfl, .inr ⟨V, b', e, h3 V h61⟩⟩
/-- the spaces at a place, whatever follows -/
theorem Pl.span {T : Str} {k : Int} {R : List Nat} (h : Pl T k R) : spEnd T k = k + ((R.takeWhile spc).length : Int) ∧ Pl T (spEnd T k) (R.dropWhile spc) := by
  have e : R.takeWhile spc ++ R.dropWhile spc = R := List.takeWhile_append_dropWhile
  have h' : Pl T k (R.takeWhile spc ++ R.dropWhile spc) := by rw [e]; exact h
  have hs := Pl.spaces (R := R.dropWhile spc) (by
    cases hd : R.dropWhile spc with
    | nil => rfl
    | cons c r =>
      have := List.head?_dropWhile_not spc R
      rw [hd] at this
      simpa using this) h' (fun c hc => by
        have := List.all_eq_true.mp (List.all_takeWhile (l := R) (p := spc)) c hc
        exact this)
  exact ⟨hs, by rw [hs]; exact h'.skip⟩
end Mine

-- P3
open PySem PySem.W PyProof.Rows PySem.Calls
set_option Elab.async false
namespace Mine
theorem vals_V : ∀ v ∈ rsV ++ wsV, noQ (lst v) = true := by decide +kernel
theorem vals_E : ∀ v ∈ rsE ++ wsE, noQ (lst v) = true := by decide +kernel
theorem ver_right : ∀ v ∈ rsV, isVersion v = true := by decide +kernel
theorem ver_wrong : ∀ v ∈ wsV, isVersion v = false := by decide +kernel
theorem enc_right : ∀ v ∈ rsE, isEnc v = true := by decide +kernel
theorem enc_wrong : ∀ v ∈ wsE, isEnc v = false := by decide +kernel
theorem isPre_self (W : Str) (R : List Nat) : (lst W).isPrefixOf (lst W ++ R) = true := isPrefix_self _ _
/-- the ends of heads -/
theorem end_head {e : Str} (h : e ∈ endsH) (R : List Nat) : ∃ c r, (lst e ++ R).dropWhile spc = c :: r ∧ c ≠ 101 ∧ c ≠ 118 ∧ (endOk e = true → c = 63 ∧ r = 62 :: R) ∧ (endOk e = false → (lst (sOf "?>")).isPrefixOf (c :: r) = false) := by
  simp only [List.mem_cons, List.not_mem_nil, or_false] at h
  rcases h with rfl | rfl | rfl | rfl | rfl | rfl | rfl
  · exact ⟨63, 62 :: R, rfl, by decide, by decide, fun _ => ⟨rfl, rfl⟩, fun h => absurd h (by decide +kernel)⟩
  · exact ⟨63, 62 :: R, rfl, by decide, by decide, fun _ => ⟨rfl, rfl⟩, fun h => absurd h (by decide +kernel)⟩
  · exact ⟨63, 62 :: R, rfl, by decide, by decide, fun _ => ⟨rfl, rfl⟩, fun h => absurd h (by decide +kernel)⟩
  · exact ⟨63, 62 :: R, rfl, by decide, by decide, fun _ => ⟨rfl, rfl⟩, fun h => absurd h (by decide +kernel)⟩
  · exact ⟨62, R, rfl, by decide, by decide, fun h => absurd h (by decide +kernel), fun _ => rfl⟩
  · exact ⟨63, 32 :: 62 :: R, rfl, by decide, by decide, fun h => absurd h (by decide +kernel), fun _ => rfl⟩
  · exact ⟨120, [61, 39, 49, 39, 63, 62] ++ R, rfl, by decide, by decide, fun h => absurd h (by decide +kernel), fun _ => rfl⟩
theorem end_closed {e : Str} (h : e ∈ endsH) {R : List Nat} (hR : noQ R = true) : Closed (lst e ++ R) := by
  simp only [List.mem_cons, List.not_mem_nil, or_false] at h
  have plain : ∀ e : Str, noQ (lst e) = true → Closed (lst e ++ R) := fun e he => closed_none (by rw [noQ_app, he, hR]; rfl)
  rcases h with rfl | rfl | rfl | rfl | rfl | rfl | rfl
  · exact plain _ (by decide)
  · exact plain _ (by decide)
  · exact plain _ (by decide)
  · exact plain _ (by decide)
  · exact plain _ (by decide)
  · exact plain _ (by decide)
  · have e : lst (sOf " x='1'?>") ++ R = [32, 120, 61] ++ ([39, 49, 39, 63, 62] ++ R) := rfl
    rw [e]
    exact closed_eq (by decide) (by decide)
/-- an encoding and an end -/
theorem enc_end {T : Str} {k : Int} {t2 e : Str} {r2 : Bool} {R : List Nat} (h : Told (sOf "encoding") rsE wsE t2 r2) (he : e ∈ endsH) (p : Pl T k (lst t2 ++ (lst e ++ R))) (hR : noQ R = true) :
    (r2 = true ∧ endOk e = true ∧ ∃ b, endAt T k = some b ∧ Pl T b R) ∨ ((r2 && endOk e) = false ∧ endAt T k = none) := by
  rcases told_read (test := isEnc) h p (end_closed he hR) vals_E enc_right enc_wrong (fun V => enc_61) with ⟨rfl, v, c, ew, et, pc⟩ | ⟨rfl, ew | ⟨v, c, ew, et⟩⟩
  · obtain ⟨_, ps⟩ := pc.span
    obtain ⟨c0, r0, ed, _, _, ho, hn⟩ := end_head he R
    rw [ed] at ps
    cases hok : endOk e with
    | true =>
      obtain ⟨rfl, rfl⟩ := ho hok
      left
      refine ⟨rfl, rfl, _, endAt_some ew et (by rw [ps.starts]; rfl), ?_⟩
      exact ps.skip (a := [63, 62])
    | false =>
      right
      exact ⟨rfl, endAt_none3 ew (by rw [ps.starts]; exact hn hok)⟩
  · exact .inr ⟨rfl, endAt_none1 ew⟩
  · exact .inr ⟨rfl, endAt_none2 ew et⟩
theorem enc_first {t2 : Str} {r2 : Bool} (h : Told (sOf "encoding") rsE wsE t2 r2) : ∃ u, lst t2 = 101 :: u := by
  obtain ⟨g, q, v, b, _, _, _, _, ht⟩ := told_shape h
  have e : lst (sOf "encoding") = 101 :: [110, 99, 111, 100, 105, 110, 103] := rfl
  rcases ht with ⟨et, _⟩ | ⟨et, _⟩ <;> rw [et, e] <;> exact ⟨_, rfl⟩
theorem enc_pre {t2 : Str} {r2 : Bool} (h : Told (sOf "encoding") rsE wsE t2 r2) : ∃ a u, lst t2 = a ++ u ∧ noQ a = true ∧ 61 ∈ a := by
  obtain ⟨g, q, v, b, _, hg, _, _, ht⟩ := told_shape h
  have hw : noQ (lst (sOf "encoding")) = true := by decide
  refine ⟨lst (sOf "encoding") ++ (g ++ [61]), ?_⟩
  rcases ht with ⟨et, _⟩ | ⟨et, _⟩
  · exact ⟨_, by rw [et]; simp only [List.append_assoc, List.cons_append, List.nil_append]; rfl, by simp only [noQ_app, hw, hg]; rfl, by simp⟩
  · exact ⟨_, by rw [et]; simp only [List.append_assoc, List.cons_append, List.nil_append]; rfl, by simp only [noQ_app, hw, hg]; rfl, by simp⟩
theorem ver_first {t1 : Str} {r1 : Bool} (h : Told (sOf "version") rsV wsV t1 r1) : ∃ u, lst t1 = lst (sOf "version") ++ u := by
  obtain ⟨g, q, v, b, _, _, _, _, ht⟩ := told_shape h
  rcases ht with ⟨et, _⟩ | ⟨et, _⟩ <;> exact ⟨_, et⟩
end Mine

-- P4
open PySem PySem.W PyProof.Rows PySem.Calls
set_option Elab.async false
namespace Mine
theorem drop_cons {c : Nat} {R : List Nat} (h : spc c = false) : (c :: R).dropWhile spc = c :: R := by simp [h]
theorem drop_gap {g : List Nat} {R : List Nat} (h : ∀ c ∈ g, spc c = true) : (g ++ R).dropWhile spc = R.dropWhile spc := by
  induction g with
  | nil => rfl
  | cons a r ih =>
    have ha := h a (.head _)
    show ((a :: (r ++ R)).dropWhile spc) = _
    rw [List.dropWhile_cons, if_pos ha]
    exact ih fun c hc => h c (.tail _ hc)
/-- no encoding: the head is not read -/
theorem no_enc {T : Str} {k : Int} {e : Str} {R : List Nat} (he : e ∈ endsH) (p : Pl T k ((lst e ++ R).dropWhile spc)) : endAt T k = none := by
  obtain ⟨c, r, ed, h1, _, _, _⟩ := end_head he R
  rw [ed] at p
  refine endAt_none1 (word_no p ?_)
  have e : lst (sOf "encoding") = 101 :: [110, 99, 111, 100, 105, 110, 103] := rfl
  rw [e]
  show ((101 == c) && _) = false
  have : (101 == c) = false := by simpa using fun q => h1 q.symm
  rw [this]; rfl
theorem no_ver {T : Str} {k : Int} {c : Nat} {R : List Nat} (p : Pl T k (c :: R)) (h : c ≠ 118) : verAt T k = some k := by
  refine verAt_same ?_
  rw [p.starts]
  have e : lst (sOf "version") = 118 :: [101, 114, 115, 105, 111, 110] := rfl
  rw [e]
  show ((118 == c) && _) = false
  have : (118 == c) = false := by simpa using fun q => h q.symm
  rw [this]; rfl
/-- what stands behind the first spaces of a head -/
theorem head_rest {T : Str} {k : Int} {H : Str} {b : Bool} {R : List Nat} (hH : HeadOf H b) (hR : noQ R = true) :
    ∃ g X, (∀ c ∈ g, spc c = true) ∧ lst H ++ R = g ++ X ∧
      (Pl T k (X.dropWhile spc) → (b = true ∧ ∃ v c, verAt T k = some v ∧ endAt T v = some c ∧ Pl T c R) ∨ (b = false ∧ (verAt T k = none ∨ ∃ v, verAt T k = some v ∧ endAt T v = none))) := by
  obtain ⟨g0, hg0, t1, r1, h1, t2, r2, h2, e, he, rfl, rfl⟩ := hH
  have hg0s : ∀ c ∈ lst g0, spc c = true := by
    simp only [List.mem_cons, List.not_mem_nil, or_false] at hg0
    rcases hg0 with rfl | rfl | rfl <;> decide
  have e0 : lst (sOf "") = [] := rfl
  rcases h1 with ⟨rfl, rfl⟩ | ⟨told, tr, gap, hv, hgap, rfl, rfl⟩
  · refine ⟨lst t1, lst t2 ++ (lst e ++ R), hg0s, by simp only [lst_app, List.append_assoc], fun p => ?_⟩
    rcases h2 with ⟨rfl, rfl⟩ | h2
    · right
      rw [e0, List.nil_append] at p
      obtain ⟨c, r, ed, _, h118, _, _⟩ := end_head he R
      refine ⟨by simp, .inr ⟨k, no_ver (ed ▸ p) h118, no_enc he p⟩⟩
    · obtain ⟨u, eu⟩ := enc_first h2
      have p' : Pl T k (lst t2 ++ (lst e ++ R)) := by
        rw [eu, List.cons_append, drop_cons (by decide)] at p
        rw [eu]; exact p
      have hver : verAt T k = some k := no_ver (R := u ++ (lst e ++ R)) (by rw [eu] at p'; exact p') (by decide)
      rcases enc_end h2 he p' hR with ⟨rfl, ho, c, ec, pc⟩ | ⟨hb, en⟩
      · exact .inl ⟨by rw [ho]; rfl, k, c, hver, ec, pc⟩
      · exact .inr ⟨by rw [Bool.true_and]; exact hb, .inr ⟨k, hver, en⟩⟩
  · refine ⟨lst g0, lst told ++ (lst gap ++ (lst t2 ++ (lst e ++ R))), hg0s, by simp only [lst_app, List.append_assoc], fun p => ?_⟩
    obtain ⟨u, eu⟩ := ver_first hv
    have e1 : lst (sOf "version") = 118 :: [101, 114, 115, 105, 111, 110] := rfl
    have p' : Pl T k (lst told ++ (lst gap ++ (lst t2 ++ (lst e ++ R)))) := by
      rw [eu, e1, List.cons_append, List.cons_append, drop_cons (by decide)] at p
      rw [eu, e1]; exact p
    have hst : Txt.startswith3 T (sOf "version") k = true := by
      rw [p'.starts, eu, List.append_assoc]; exact isPrefix_self _ _
    have hgq : noQ (lst gap) = true ∧ (∀ c ∈ lst gap, spc c = true) ∧ ((gap != sOf "") = true → 0 < (lst gap).length) ∧ ((gap != sOf "") = false → lst gap = []) := by
      simp only [List.mem_cons, List.not_mem_nil, or_false] at hgap
      rcases hgap with rfl | rfl | rfl | rfl <;> decide
    have hcl : Closed (lst gap ++ (lst t2 ++ (lst e ++ R))) := by
      rcases h2 with ⟨rfl, _⟩ | h2
      · rw [e0, List.nil_append]
        intro q hq
        have := end_closed he hR q hq
        rcases this with h | ⟨u, R', eR, h2, h3⟩
        · exact .inl (by intro hm; rcases List.mem_append.mp hm with hm | hm; exact noQ_mem hgq.1 hq hm; exact h hm)
        · exact .inr ⟨lst gap ++ u, R', by rw [eR]; simp, by intro hm; rcases List.mem_append.mp hm with hm | hm; exact noQ_mem hgq.1 hq hm; exact h2 hm, by simp [h3]⟩
      · obtain ⟨a, u, ea, na, h61⟩ := enc_pre h2
        have : lst gap ++ (lst t2 ++ (lst e ++ R)) = (lst gap ++ a) ++ (u ++ (lst e ++ R)) := by rw [ea]; simp
        rw [this]
        exact closed_eq (by rw [noQ_app, hgq.1, na]; rfl) (by simp [h61])
    rcases told_read (test := isVersion) hv p' hcl vals_V ver_right ver_wrong (fun V => ver_61) with ⟨rfl, v, c, ew, et, pc⟩ | ⟨rfl, ew | ⟨v, c, ew, et⟩⟩
    · obtain ⟨es, ps⟩ := pc.span
      rw [drop_gap hgq.2.1] at ps
      by_cases hs : spEnd T c = c
      · refine .inr ⟨?_, .inl (verAt_none3 hst ew hs)⟩
        cases hgp : (gap != sOf "") with
        | false => simp
        | true =>
          exfalso
          rw [hs] at es
          have h0 : ((lst gap ++ (lst t2 ++ (lst e ++ R))).takeWhile spc).length = 0 := by omega
          have hp := hgq.2.2.1 hgp
          have hc := hgq.2.1
          cases hl : lst gap with
          | nil => rw [hl] at hp; simp at hp
          | cons a r =>
            rw [hl] at h0 hc
            have ha := hc a (.head _)
            rw [List.cons_append, List.takeWhile_cons, if_pos ha] at h0
            simp at h0
      · have hver := verAt_some hst ew et hs
        rcases h2 with ⟨rfl, rfl⟩ | h2
        · rw [e0, List.nil_append] at ps
          exact .inr ⟨by simp, .inr ⟨_, hver, no_enc he ps⟩⟩
        · obtain ⟨u2, eu2⟩ := enc_first h2
          have p2 : Pl T (spEnd T c) (lst t2 ++ (lst e ++ R)) := by
            rw [eu2, List.cons_append, drop_cons (by decide)] at ps
            rw [eu2]; exact ps
          have hgp : (gap != sOf "") = true := by
            cases hgp : (gap != sOf "") with
            | true => rfl
            | false =>
              exfalso
              apply hs
              have hn := hgq.2.2.2 hgp
              rw [hn, List.nil_append, eu2, List.cons_append, List.takeWhile_cons, if_neg (by decide)] at es
              simpa using es
          rcases enc_end h2 he p2 hR with ⟨rfl, ho, c2, ec, pc2⟩ | ⟨hb, en⟩
          · exact .inl ⟨by rw [hgp, ho]; rfl, _, c2, hver, ec, pc2⟩
          · exact .inr ⟨by rw [hgp]; simpa using hb, .inr ⟨_, hver, en⟩⟩
    · exact .inr ⟨by simp, .inl (verAt_none1 hst ew)⟩
    · exact .inr ⟨by simp, .inl (verAt_none2 hst ew et)⟩
/-- a head behind its opening -/
theorem pass_law {O H D : Str} {b : Bool} {s : Nat} {R : List Nat} (hO : lst O = lst (sOf "<?xml") ++ [s]) (hs : spc s = true) (hH : HeadOf H b) (hD : lst D = R) (hR : noQ R = true) :
    (b = true → passHead (O ++ H ++ D) 0 = some ((O ++ H).length : Int)) ∧ (b = false → passHead (O ++ H ++ D) 0 = none) := by
  have e5 : ((sOf "<?xml").length : Int) = 5 := rfl
  have p0 := Pl.start (O ++ H ++ D)
  have el : lst (O ++ H ++ D) = lst (sOf "<?xml") ++ (s :: (lst H ++ R)) := by rw [lst_app, lst_app, hO, hD]; simp
  rw [el] at p0
  have hst : Txt.startswith3 (O ++ H ++ D) (sOf "<?xml") 0 = true := by rw [p0.starts]; exact isPrefix_self _ _
  have p1 := p0.skip
  rw [lst_len, e5, Int.zero_add] at p1
  obtain ⟨g, X, hg, eX, hrest⟩ := head_rest (T := O ++ H ++ D) (k := spEnd (O ++ H ++ D) 5) hH hR
  obtain ⟨es, ps⟩ := p1.span
  have hne : spEnd (O ++ H ++ D) (0 + ((sOf "<?xml").length : Int)) ≠ 0 + ((sOf "<?xml").length : Int) := by
    rw [e5, Int.zero_add, es, List.takeWhile_cons, if_pos hs]
    simp only [List.length_cons]; omega
  have ps' : Pl (O ++ H ++ D) (spEnd (O ++ H ++ D) 5) (X.dropWhile spc) := by
    rw [eX] at ps
    have : (s :: (g ++ X)).dropWhile spc = X.dropWhile spc := drop_gap (g := s :: g) (fun c hc => by
      rcases List.mem_cons.mp hc with rfl | hc
      · exact hs
      · exact hg c hc)
    rw [this] at ps; exact ps
  have e05 : (0 : Int) + ((sOf "<?xml").length : Int) = 5 := by rw [e5]; rfl
  rcases hrest ps' with ⟨hb, v, c, ev, ee, pc⟩ | ⟨hb, hn⟩
  · have := pass_on hst hne (by rw [e05]; exact ev) ee
    refine ⟨fun _ => ?_, fun h => (by rw [hb] at h; cases h)⟩
    rw [this]
    have hl := pc.len
    have hT : (O ++ H ++ D).length = (O ++ H).length + D.length := Str.length_append _ _
    have hDl : R.length = D.length := by rw [← hD]; exact lst_len D
    congr 1; omega
  · refine ⟨fun h => (by rw [hb] at h; cases h), fun _ => ?_⟩
    rcases hn with h | ⟨v, ev, en⟩
    · exact pass_no3 (by rw [e05]; exact h)
    · exact pass_on hst hne (by rw [e05]; exact ev) en
end Mine

-- P5
open PySem PySem.W PyProof.Rows PySem.Calls PySem.StrLaws PySem.Builtin PySem.Builtin.Str
set_option Elab.async false
namespace Mine
theorem at_iff {x y : Str} (hw : 1 ≤ y.length) {k : Nat} : At x y x.length k ↔ (lst y) <+: (lst x).drop k := by
  unfold At
  rw [subAt_eq]
  constructor
  · intro ⟨h1, h2⟩
    have h3 : ((lst x).drop k).take y.length = lst y := by simpa using h2
    rw [← h3]; exact List.take_prefix _ _
  · intro h
    have hy := lst_len y
    have hx := lst_len x
    have h4 := List.prefix_iff_eq_take.mp h
    rw [hy] at h4
    have h5 := h.length_le
    rw [hy, List.length_drop, hx] at h5
    exact ⟨by omega, by simpa using h4.symm⟩
section
variable {x y : Str} {z : Str} {g : List Nat → List Nat} (hw : 1 ≤ y.length) (g0 : g [] = []) (gy : ∀ l, lst y <+: l → g l = lst z ++ g (l.drop y.length)) (gc : ∀ c r, ¬ lst y <+: (c :: r) → g (c :: r) = c :: g r)
include hw g0 gy gc
theorem skip_no : ∀ (n a : Nat), a + n ≤ x.length → (∀ k, a ≤ k → k < a + n → ¬ At x y x.length k) → g ((lst x).drop a) = ((lst x).drop a).take n ++ g ((lst x).drop (a + n))
  | 0, a, _, _ => by simp
  | n + 1, a, hl, hn => by
    have hx := lst_len x
    have ha : a < (lst x).length := by omega
    rw [List.drop_eq_getElem_cons ha]
    have h1 := hn a (Nat.le_refl _) (by omega)
    rw [at_iff hw, List.drop_eq_getElem_cons ha] at h1
    rw [gc _ _ h1, skip_no n (a + 1) (by omega) (fun k h2 h3 => hn k (by omega) (by omega)), List.take_succ_cons, List.cons_append]
    have : a + 1 + n = a + (n + 1) := by omega
    rw [this]
theorem all_no' (a : Nat) (ha : a ≤ x.length) (hn : ∀ k, a ≤ k → ¬ At x y x.length k) : g ((lst x).drop a) = (lst x).drop a := by
  have hx := lst_len x
  have := skip_no (x := x) hw g0 gy gc (x.length - a) a (by omega) (fun k h1 _ => hn k h1)
  have e : a + (x.length - a) = x.length := by omega
  have h0 : (lst x).drop x.length = [] := List.drop_eq_nil_of_le (by omega)
  rw [this, e, h0, g0, List.append_nil]
  exact List.take_of_length_le (by rw [List.length_drop]; omega)
theorem chain_repl : ∀ (cuts : List Nat) (a f : Nat), ChainG x y x.length a cuts f → (∀ k, f ≤ k → ¬ At x y x.length k) → a ≤ x.length → lst (Str.join z (partsFrom x y.length a cuts)) = g ((lst x).drop a)
  | [], a, f, hc, hn, ha => by
    have e : f = a := hc
    subst e
    rw [all_no' (x := x) hw g0 gy gc f ha hn]
    show (strSub x f x.length).cps.toList = _
    rw [strSub_toList]
    exact List.take_of_length_le (by rw [List.length_drop]; have := lst_len x; show (lst x).length - f ≤ _; omega)
  | c :: r, a, f, hc, hn, ha => by
    obtain ⟨hac, hA, hno, hr⟩ := hc
    have hcl : c + y.length ≤ x.length := hA.1
    have ih := chain_repl r (c + y.length) f hr hn hcl
    obtain ⟨p, q, ep⟩ := partsFrom_ne x y.length (c + y.length) r
    have e1 : Str.join z (partsFrom x y.length a (c :: r)) = strSub x a c ++ z ++ Str.join z (partsFrom x y.length (c + y.length) r) := by
      show Str.join z (strSub x a c :: partsFrom x y.length (c + y.length) r) = _
      rw [ep]; rfl
    rw [e1, lst_app, lst_app, ih]
    have e2 := skip_no (x := x) hw g0 gy gc (c - a) a (by omega) (fun k h1 h2 => hno k h1 (by omega))
    have e3 : a + (c - a) = c := by omega
    rw [e2, e3, gy _ ((at_iff hw).mp hA), List.drop_drop, List.append_assoc]
    congr 1
    exact strSub_toList x a c
theorem repl_split (hk : PySem.Builtin.Str.strKind y = 1) : lst (Txt.join z (Txt.split x y)) = g (lst x) := by
  have hx := lst_len x
  have hj : ∀ l, Txt.join z l = Str.join z l := fun l => glued_eq_join z l
  obtain ⟨f, hc, hn⟩ := occ_tight x y hw
  have whole : (∀ k, ¬ At x y x.length k) → lst (Txt.join z [x]) = g (lst x) := fun h => by
    have := all_no' (x := x) hw g0 gy gc 0 (Nat.zero_le _) (fun k _ => h k)
    rw [List.drop_zero] at this
    rw [this, hj]; rfl
  unfold Txt.split
  split
  · rename_i h
    simp only [Bool.or_eq_true, decide_eq_true_eq] at h
    rcases h with h | h
    · exact whole fun k hA => by have := hA.1; omega
    · exfalso
      rw [hk] at h
      unfold PySem.Builtin.Str.strKind at h
      split at h
      · omega
      · split at h <;> omega
  · split
    · rename_i h
      have e : occurrences x y 0 x.length (x.length + 1) = [] := by simpa using h
      rw [e] at hc
      have ef : f = 0 := hc
      subst ef
      exact whole fun k => hn k (Nat.zero_le _)
    · rw [hj, partsBetween_eq]
      have := chain_repl (x := x) hw g0 gy gc _ 0 f hc hn (Nat.zero_le _)
      rw [List.drop_zero] at this
      exact this
end
def crlf : List Nat → List Nat
  | [] => []
  | [c] => [c]
  | c :: d :: r => if c = 13 ∧ d = 10 then 10 :: crlf r else c :: crlf (d :: r)
def cr1 (c : Nat) : Nat := if c = 13 then 10 else c
theorem ends_lst (V : Str) : lst (plainEnds V) = (crlf (lst V)).map cr1 := by
  unfold plainEnds
  have h2 : ∀ x : Str, lst (Txt.join (sOf "\n") (Txt.split x (sOf "\x0d"))) = (lst x).map cr1 := fun x => by
    refine repl_split (g := fun l => l.map cr1) (by decide) rfl ?_ ?_ (by decide +kernel)
    · intro l hl
      obtain ⟨r, rfl⟩ := hl
      have e : lst (sOf "\x0d") = [13] := rfl
      have e2 : lst (sOf "\n") = [10] := rfl
      have e3 : (sOf "\x0d").length = 1 := rfl
      rw [e, e2, e3]; rfl
    · intro c r hn
      have e : lst (sOf "\x0d") = [13] := rfl
      have hc : c ≠ 13 := fun q => hn (by rw [e, q]; exact ⟨r, rfl⟩)
      show cr1 c :: _ = _
      rw [show cr1 c = c by unfold cr1; rw [if_neg hc]]
  have h1 : lst (ends1 V) = crlf (lst V) := by
    refine repl_split (g := crlf) (by decide) rfl ?_ ?_ (by decide +kernel)
    · intro l hl
      obtain ⟨r, rfl⟩ := hl
      have e : lst (sOf "\x0d\n") = [13, 10] := rfl
      have e2 : lst (sOf "\n") = [10] := rfl
      have e3 : (sOf "\x0d\n").length = 2 := rfl
      show crlf (lst (sOf "\x0d\n") ++ r) = lst (sOf "\n") ++ crlf ((lst (sOf "\x0d\n") ++ r).drop (sOf "\x0d\n").length)
      rw [e, e2, e3]
      show (if 13 = 13 ∧ 10 = 10 then 10 :: crlf r else _) = _
      rw [if_pos ⟨rfl, rfl⟩]; rfl
    · intro c r hn
      have e : lst (sOf "\x0d\n") = [13, 10] := rfl
      cases r with
      | nil => rfl
      | cons d r =>
        have hc : ¬ (c = 13 ∧ d = 10) := fun q => hn (by
          show lst (sOf "\x0d\n") <+: _
          rw [e, q.1, q.2]; exact ⟨r, rfl⟩)
        show (if c = 13 ∧ d = 10 then _ else _) = _
        rw [if_neg hc]
  rw [h2, h1]
theorem lp_crlf' : ∀ (n : Nat) (l : List Nat) (p : Nat), l.length ≤ n → (p ≠ 13 ∨ ∀ r, l ≠ 10 :: r) → lp p l = (crlf l).map cr1
  | _, [], p, _, _ => rfl
  | 0, _ :: _, _, h, _ => by simp at h
  | n + 1, [c], p, h, hp => by
    show lawStep p c ++ [] = [cr1 c]
    unfold lawStep cr1
    by_cases hc : c = 13
    · simp [hc]
    · by_cases h10 : c = 10
      · have : p ≠ 13 := hp.elim id fun h => absurd rfl (h10 ▸ h [])
        simp [h10, this]
      · simp [hc, h10]
  | n + 1, c :: d :: r, p, h, hp => by
    have hlr : (d :: r).length ≤ n := by simpa using h
    show lawStep p c ++ lp c (d :: r) = ((if c = 13 ∧ d = 10 then 10 :: crlf r else c :: crlf (d :: r)).map cr1)
    by_cases hc : c = 13
    · subst hc
      have e1 : lawStep p 13 = [10] := rfl
      by_cases hd : d = 10
      · subst hd
        rw [if_pos ⟨rfl, rfl⟩, e1]
        have e2 : lp 13 (10 :: r) = lp 10 r := by show lawStep 13 10 ++ lp 10 r = _; rfl
        rw [e2, lp_crlf' n r 10 (by simp at hlr; omega) (.inl (by decide))]; rfl
      · rw [if_neg (fun q => hd q.2), e1, lp_crlf' n (d :: r) 13 hlr (.inr fun r' q => hd (by cases q; rfl))]; rfl
    · rw [if_neg (fun q => hc q.1), lp_crlf' n (d :: r) c hlr (.inl hc)]
      have e1 : lawStep p c = [c] := by
        unfold lawStep
        rw [if_neg hc]
        by_cases h10 : c = 10
        · have : p ≠ 13 := hp.elim id fun h => absurd rfl (h10 ▸ h (d :: r))
          rw [if_pos (.inr this)]
        · rw [if_pos (.inl h10)]
      rw [e1]
      have e2 : cr1 c = c := by unfold cr1; rw [if_neg hc]
      simp [e2]
theorem plain_same (V : Str) : plainEnds V = plainLaw V := by
  apply Str.ext'
  have h : lst (plainEnds V) = lst (plainLaw V) := by
    rw [ends_lst]
    unfold plainLaw
    exact (lp_crlf' _ (lst V) 0 (Nat.le_refl _) (.inl (by decide))).symm
  have h2 := congrArg List.toArray h
  simpa using h2
end Mine

-- P6
open PySem PySem.W PyProof.Rows PySem.Calls PySem.StrLaws
set_option Elab.async false
namespace Mine
def okc (c : Nat) : Bool := charOk c || c == 1
def okl (l : List Nat) : Bool := l.all okc
theorem okl_app {a b : List Nat} : okl (a ++ b) = (okl a && okl b) := by unfold okl; rw [List.all_append]
theorem slice_to {T : Str} (n : Nat) : Txt.slice T none (some (n : Int)) = ⟨((lst T).take n).toArray⟩ := by
  have : Txt.slice T none (some (n : Int)) = Txt.slice T (some ((0 : Nat) : Int)) (some (n : Int)) := by
    show sliceText T _ _ = sliceText T _ _
    unfold sliceText
    rw [sliceIdx_none_lo]; rfl
  rw [this, slice_nn]; simp
theorem slice_from' {T : Str} {n : Nat} (h : n ≤ (lst T).length) : Txt.slice T (some (n : Int)) none = ⟨((lst T).drop n).toArray⟩ := by
  have := sliceText_from (x := T) (i := (n : Int)) ⟨by omega, by show (n : Int) ≤ ((lst T).length : Int); omega⟩
  show sliceText T _ _ = _
  rw [this]
  congr 2
  rw [Int.toNat_natCast]
  exact List.take_of_length_le (by rw [List.length_drop]; omega)
theorem isHead_app {O X : Str} (h : 6 ≤ (lst O).length) : isHead (O ++ X) = isHead O := by
  have hT := lst_app O X
  have hl := lst_len O
  have hl2 := lst_len (O ++ X)
  have e1 : Txt.slice (O ++ X) none (some ((5 : Nat) : Int)) = Txt.slice O none (some ((5 : Nat) : Int)) := by
    rw [slice_to, slice_to, hT, List.take_append_of_le_length (by omega)]
  have e2 : Txt.slice (O ++ X) (some ((5 : Nat) : Int)) (some (((5 : Nat) : Int) + 1)) = Txt.slice O (some ((5 : Nat) : Int)) (some (((5 : Nat) : Int) + 1)) := by
    have e6 : ((5 : Nat) : Int) + 1 = ((6 : Nat) : Int) := rfl
    rw [e6, slice_nn, slice_nn]
    show (⟨(((lst (O ++ X)).drop 5).take (6 - 5)).toArray⟩ : Str) = _
    rw [hT, List.drop_append_of_le_length (by omega), List.take_append_of_le_length (by rw [List.length_drop]; omega)]
  have e3 : decide (((O ++ X).length : Int) = ((5 : Nat) : Int)) = false := decide_eq_false (by rw [← hl2, hT, List.length_append]; omega)
  have e4 : decide ((O.length : Int) = ((5 : Nat) : Int)) = false := decide_eq_false (by rw [← hl]; omega)
  unfold isHead
  rw [e1, e2, e3, e4]
theorem lp_ok : ∀ (l : List Nat) (p : Nat), okl l = true → (lp p l).all charOk = l.all (fun c => c != 1)
  | [], p, _ => rfl
  | c :: r, p, h => by
    have h' : okc c = true ∧ okl r = true := by unfold okl at h ⊢; simpa using h
    show (lawStep p c ++ lp c r).all charOk = _
    rw [List.all_append, lp_ok r c h'.2, List.all_cons]
    congr 1
    unfold lawStep
    have h10 : charOk 10 = true := by decide +kernel
    have h1 : charOk 1 = false := by decide +kernel
    by_cases hc : c = 13
    · subst hc; simp [h10]
    · rw [if_neg hc]
      have hcc : charOk c = (c != 1) := by
        have := h'.1
        unfold okc at this
        by_cases e : c = 1
        · subst e; rw [h1]; rfl
        · have e' : (c == 1) = false := by simpa using e
          rw [e', Bool.or_false] at this
          rw [this]; simpa using e
      split
      · simp [hcc]
      · rename_i hn
        have : c = 10 := by
          by_cases e : c = 10
          · exact e
          · exact absurd (.inl e) hn
        subst this; rfl
theorem first_law {d : Str} (h : okl (lst d) = true) : firstOk (plainLaw d) = !(inText d (sOf "\x01")) := by
  have e : inText d (sOf "\x01") = decide (1 ∈ lst d) := in_one d 1
  rw [e]
  unfold firstOk
  have e2 : (plainLaw d).cps.toList = lp 0 (lst d) := by unfold plainLaw; rfl
  rw [e2, lp_ok _ _ h]
  rw [Bool.eq_iff_iff]
  simp only [List.all_eq_true, Bool.not_eq_true', decide_eq_false_iff_not, bne_iff_ne]
  exact ⟨fun h hm => h 1 hm rfl, fun h c hc q => h (q ▸ hc)⟩
theorem outer_law {V T : Str} (hu : unmark V = T) (h : ∀ d, bare T = some d → okl (lst d) = true) : outerOf V = outLaw (bare T) := by
  unfold outerOf
  rw [hu]
  cases hb : bare T with
  | none => rfl
  | some d =>
    show (if firstOk (plainEnds d) = true then some (plainEnds d) else none) = (if inText d (sOf "\x01") = true then none else some (plainLaw d))
    rw [plain_same, first_law (h d hb)]
    cases inText d (sOf "\x01") <;> rfl
theorem unmark_mark {T : Str} : unmark (Str.ofString "\ufeff" ++ T) = T := by
  have e : lst (Str.ofString "\ufeff" ++ T) = 65279 :: lst T := by rw [lst_app]; rfl
  have h1 : Txt.slice (Str.ofString "\ufeff" ++ T) none (some 1) = Str.ofString "\ufeff" := by
    have := slice_to (T := Str.ofString "\ufeff" ++ T) 1
    show Txt.slice _ none (some ((1 : Nat) : Int)) = _
    rw [this, e]; rfl
  rw [unmark_yes (by rw [h1]; simp)]
  have := slice_from' (T := Str.ofString "\ufeff" ++ T) (n := 1) (by rw [e]; simp)
  show Txt.slice _ (some ((1 : Nat) : Int)) none = _
  rw [this, e]
  apply Str.ext'; simp
theorem unmark_none {T : Str} {c : Nat} {r : List Nat} (h : lst T = c :: r) (hc : c ≠ 65279) : unmark T = T := by
  refine unmark_no ?_
  have := slice_to (T := T) 1
  have e : Txt.slice T none (some 1) = ⟨#[c]⟩ := by
    show Txt.slice T none (some ((1 : Nat) : Int)) = _
    rw [this, h]; rfl
  rw [e]
  have e2 : Str.ofString "\ufeff" = ⟨#[65279]⟩ := by decide +kernel
  rw [e2, sign_eq]; simpa using hc
theorem join_sub : ∀ {ws : List Str} {q : Nat → Bool}, (∀ w ∈ ws, (lst w).all q = true) → (lst (Str.join (sOf "") ws)).all q = true
  | [], q, _ => rfl
  | [x], q, h => h x (.head _)
  | x :: y :: r, q, h => by
    have ih := join_sub (ws := y :: r) (q := q) fun w hw => h w (.tail _ hw)
    show (lst (x ++ sOf "" ++ Str.join (sOf "") (y :: r))).all q = true
    rw [lst_app, lst_app, List.all_append, List.all_append, ih, h x (.head _)]; rfl
theorem join_len {ws : List Str} (h : ∀ w ∈ ws, w.length ≤ 10) (hl : ws.length ≤ 4) : (Txt.join (sOf "") ws).length ≤ 100 := by
  have e : Txt.join (sOf "") ws = Str.join (sOf "") ws := glued_eq_join _ _
  rw [e]
  have h1 := join_length_le (sOf "") ws
  have h2 := sumLen_le (B := 10) ws h
  have h3 : (sOf "").length = 0 := rfl
  rw [h3] at h1
  have h4 : ws.length * 10 ≤ 4 * 10 := Nat.mul_le_mul_right _ hl
  omega
theorem told_ok {W : Str} {rs ws : List Str} {t : Str} {r : Bool} (h : Told W rs ws t r) (hW : okl (lst W) = true) (hv : ∀ v ∈ rs ++ ws, okl (lst v) = true) : okl (lst t) = true := by
  obtain ⟨gap, hg, q, hq, v, b, hvv, ht⟩ := h
  have hgap : okl (lst gap) = true := by
    simp only [List.mem_cons, List.not_mem_nil, or_false] at hg
    rcases hg with rfl | rfl | rfl <;> decide +kernel
  have hqq : okl (lst q) = true := by
    simp only [List.mem_cons, List.not_mem_nil, or_false] at hq
    rcases hq with rfl | rfl <;> decide +kernel
  have hve := hv v (by rcases hvv with ⟨h, _⟩ | ⟨h, _⟩ <;> simp [h])
  have he : okl (lst (sOf "=")) = true := by decide +kernel
  have h0 : okl (lst (sOf "")) = true := rfl
  rcases ht with ⟨rfl, _⟩ | ⟨rfl, _⟩ <;> simp only [lst_app, okl_app, hW, hgap, hqq, hve, he, h0, Bool.and_self]
theorem head_ok {H : Str} {b : Bool} (h : HeadOf H b) : okl (lst H) = true := by
  obtain ⟨g0, hg0, t1, r1, h1, t2, r2, h2, e, he, rfl, rfl⟩ := h
  have hg : okl (lst g0) = true := by
    simp only [List.mem_cons, List.not_mem_nil, or_false] at hg0
    rcases hg0 with rfl | rfl | rfl <;> decide +kernel
  have he' : okl (lst e) = true := by
    simp only [List.mem_cons, List.not_mem_nil, or_false] at he
    rcases he with rfl | rfl | rfl | rfl | rfl | rfl | rfl <;> decide +kernel
  have h2' : okl (lst t2) = true := by
    rcases h2 with ⟨rfl, _⟩ | h2
    · rfl
    · exact told_ok h2 (by decide +kernel) (by decide +kernel)
  have h1' : okl (lst t1) = true := by
    rcases h1 with ⟨rfl, _⟩ | ⟨told, tr, gap, hv, hgap, rfl, _⟩
    · exact hg
    · have ht := told_ok hv (by decide +kernel) (by decide +kernel)
      have hgp : okl (lst gap) = true := by
        simp only [List.mem_cons, List.not_mem_nil, or_false] at hgap
        rcases hgap with rfl | rfl | rfl | rfl <;> decide +kernel
      simp only [lst_app, okl_app, hg, ht, hgp, Bool.and_self]
  simp only [lst_app, okl_app, h1', h2', he', Bool.and_self]
theorem open_facts : ∀ O ∈ openL, 6 ≤ (lst O).length ∧ O.length ≤ 40 ∧ okl (lst O) = true ∧ ((lst O).head?.getD 0 ≠ 65279) ∧
    (isHead O = true → (Txt.slice O none (some 5) == Str.ofString "<?xml") = true ∧ anySp O = true ∧ spc ((lst O).getD 5 0) = true ∧ lst O = lst (sOf "<?xml") ++ [(lst O).getD 5 0]) ∧
    (isHead O = false → (Txt.slice O none (some 5) == Str.ofString "<?xml") = false ∨ anySp O = false) := by decide +kernel
theorem law_facts {O H : Str} {ws : List Str} {b : Bool} (hO : O ∈ openL) (hH : HeadOf H b) (hw : ∀ w ∈ ws, w ∈ pieceL) (hl : ws.length ≤ 4) (hHl : H.length ≤ 1000) : LawFacts O H (Txt.join (sOf "") ws) b := by
  obtain ⟨h6, h40, hok, hfirst, hyes, hno⟩ := open_facts O hO
  have ej : Txt.join (sOf "") ws = Str.join (sOf "") ws := glued_eq_join _ _
  have pc : ∀ w ∈ pieceL, (lst w).all (fun c => c != 34 && c != 39) = true ∧ (lst w).all okc = true ∧ w.length ≤ 10 := by decide +kernel
  have hDl : (Txt.join (sOf "") ws).length ≤ 100 := join_len (fun w h => (pc w (hw w h)).2.2) hl
  have hDq : noQ (lst (Txt.join (sOf "") ws)) = true := by rw [ej]; exact join_sub fun w h => (pc w (hw w h)).1
  have hDo : okl (lst (Txt.join (sOf "") ws)) = true := by rw [ej]; exact join_sub fun w h => (pc w (hw w h)).2.1
  generalize Txt.join (sOf "") ws = D at hDl hDq hDo
  have hHo := head_ok hH
  have hT : okl (lst (O ++ H ++ D)) = true := by rw [lst_app, lst_app, okl_app, okl_app, hok, hHo, hDo]; rfl
  have hhd : isHead (O ++ H ++ D) = isHead O := by rw [Str.append_assoc]; exact isHead_app h6
  have hsame : isHead O = false → bare (O ++ H ++ D) = some (O ++ H ++ D) := fun h => bare_same (by rw [hhd, h])
  have hpass := fun (h : isHead O = true) => pass_law (D := D) (hyes h).2.2.2 (hyes h).2.2.1 hH rfl hDq
  have hcut : isHead O = true → b = true → bare (O ++ H ++ D) = some D := fun h hb => by
    have e := bare_cut (T := O ++ H ++ D) (by rw [hhd, h]) ((hpass h).1 hb)
    rw [e]
    have hlen : (lst (O ++ H)).length = (O ++ H).length := lst_len _
    have := slice_from' (T := O ++ H ++ D) (n := (O ++ H).length) (by rw [lst_app, List.length_append]; omega)
    rw [this, lst_app, ← hlen, List.drop_left]
  have hnone : isHead O = true → b = false → bare (O ++ H ++ D) = none := fun h hb => bare_none (T := O ++ H ++ D) (by rw [hhd, h]) ((hpass h).2 hb)
  have hh : (Txt.slice O none (some 5) == Str.ofString "<?xml") = true → anySp O = true → isHead O = true := fun h1 h2 => by
    cases hi : isHead O with
    | true => rfl
    | false =>
      rcases hno hi with h | h
      · rw [h1] at h; cases h
      · rw [h2] at h; cases h
  have hd : ∀ d, bare (O ++ H ++ D) = some d → okl (lst d) = true := fun d e => by
    cases hi : isHead O with
    | false => rw [hsame hi] at e; cases e; exact hT
    | true =>
      cases hb : b with
      | true => rw [hcut hi hb] at e; cases e; exact hDo
      | false => rw [hnone hi hb] at e; cases e
  refine ⟨h40, hHl, hDl, fun h1 h2 hb => (hpass (hh h1 h2)).1 hb, fun h1 h2 hb => (hpass (hh h1 h2)).2 hb, fun h1 h2 hb => hcut (hh h1 h2) hb, fun h1 h2 hb => hnone (hh h1 h2) hb, fun h => hsame ?_, fun h => hsame ?_, fun M hM => ?_⟩
  · cases hi : isHead O with
    | false => rfl
    | true => rw [(hyes hi).2.1] at h; cases h
  · cases hi : isHead O with
    | false => rfl
    | true => rw [(hyes hi).1] at h; cases h
  · rcases hM with rfl | rfl
    · have e : Str.ofString "" ++ (O ++ H ++ D) = O ++ H ++ D := Str.empty_append _
      rw [e]
      obtain ⟨c, r, er⟩ : ∃ c r, lst O = c :: r := by
        cases h : lst O with
        | nil => rw [h] at h6; simp at h6
        | cons c r => exact ⟨c, r, rfl⟩
      refine outer_law (unmark_none (c := c) (r := r ++ (lst H ++ lst D)) ?_ ?_) hd
      · rw [lst_app, lst_app, er]; simp
      · rw [er] at hfirst; simpa using hfirst
    · exact outer_law unmark_mark hd
end Mine

open PySem PySem.W PyProof.Rows PySem.Calls
set_option Elab.async false
set_option linter.unusedVariables false
namespace Mine
example : (PySem.Challenge.rw_xm0639_01 = PySem.Challenge.rw_xm0639_01 ∧ Mine.hd.heap_1_39 = Mine.hd.heap_1_39) := by
  k_fill; exact ⟨rfl, rfl⟩
local macro_rules | `(tactic| walk_at $s:str) => `(tactic| k_extra $s)
local macro_rules | `(tactic| k_all) => `(tactic| first | assumption | exact allLt_off (by assumption) | exact List.forall_mem_nil _ | (refine' List.forall_mem_cons.mpr ⟨?a, ?b⟩; (case a => k_ne); (case b => k_all)))
local macro_rules | `(tactic| k_all) => `(tactic| exact lt2_off (by assumption) (by assumption))
-- C1
example : True := by
  k_with_none
  trivial
example : True := by
  k_with "subscriptTail Name Constant ref int" => (k_here; with_unfolding_all refine' s_item ?k1 ?k2 ?k3 ?k4 ?k5 ?_ ?k6; (case k1 => k_asm); (case k2 => k_mem); (case k3 => decide); (case k4 => decide); (case k5 => rfl); (case k6 => with_unfolding_all rfl); k_whole)
  trivial
example : True := by
  k_with "binaryOp Mod int int" => (refine s_mod (by omega) ?_)
  trivial
example : True := by
  k_with "binaryOp FloorDiv int int" => (refine s_div (by omega) (by omega) ?_)
  trivial
example : True := by
  k_with "binaryOp Mult int int" => (refine s_mul (by omega) (by omega) ?_)
  trivial
example : True := by
  k_with "getMethod type:Exception" => (k_here; refine' method_type ?F ?X ?m (by decide +kernel) ?e ?h ?_; (case F => k_asm); (case X => k_asm); (case m => exact meta_Exception); (case e => k_dflt k_is); (case h => k_handed))
  trivial
example : True := by
  k_with "call builtin:Exception.__init__" => (k_here; k_dflt (refine' e_init ?kF ?kN ?kn ?kX ?kK ?kr ?_; (case kF => k_asm); (case kN => k_asm); (case kn => k_all); (case kX => k_in); (case kK => k_is); (case kr => simp [sizeLine_eq])); intro t' h' F' N' l1 l2; (k_lt2 l2); (replace l1 := allLt_of l1))
  trivial
example : True := by
  k_with "setAttr ref" => (k_here; k_dflt (refine' e_set_new ?kF ?kN ?kn ?kX ?k1 ?k2 ?k3 ?k4 ?kc ?kh ?km ?kr ?kt ?ks ?_; (case kF => k_asm); (case kN => first | k_asm | exact news_off (by k_asm)); (case kn => k_all); (case kX => k_in); (case k1 => rfl); (case k2 => rfl); (case k3 => rfl); (case k4 => rfl); (case kc => k_is); (case kh => rfl); (case km => k_is); (case kr => first | exact refuse136 _ | exact refuse148 _); (case kt => k_is); (case ks => k_is)); intro d' hs' ks' h' F' N' l3 l4; (k_lt2 l4); (replace l3 := allLt_of l3); (try (simp only [AllLt] at l3)); (try (obtain ⟨l5, l3⟩ := l3)); (try (obtain ⟨l6, l3⟩ := l3)))
  trivial
example : True := by
  k_with "setAttr ref" => (k_here; k_dflt (refine' e_set_old ?kF ?kN ?kg ?kn ?kX ?k1 ?k2 ?k3 ?kc ?kh ?km ?kr ?kt ?ks ?k5 ?ke ?k6 ?_; (case kF => k_asm); (case kN => exact news_swap (by k_asm)); (case kg => exact News.get (by k_asm) (.head _)); (case kn => k_all); (case kX => k_in); (case k1 => rfl); (case k2 => rfl); (case k3 => rfl); (case kc => k_is); (case kh => rfl); (case km => k_is); (case kr => first | exact refuse136 _ | exact refuse148 _); (case kt => k_is); (case ks => k_is); (case k5 => (rw [aRefKeyMayBeTheName_at, Bool.and_eq_false_iff]; right; simp [DictEntry.refKey])); (case ke => k_put); (case k6 => simp)); intro h' F' N')
  trivial
example : True := by
  k_with "exec Raise some none" => (k_here; k_dflt (refine' e_exec0 (C := 136) ?kh ?kX ?kK ?_; (case kh => rfl); (case kX => k_asm); (case kK => k_is)))
  trivial
section
variable {prog : Program} {w : World} {p : Program} {loose : List Str} {mean : ExcName → Option Value} {mg mb : Str → Option Value} {A₀ : Around} {base h₀ : Heap} {outer : List Env} {cn : Str} {cs : Scope} {ca L : Addr} {ccd : Value} {cl : List (Str × Addr)} {m : Str → Option Value} {rest : Led} {s : Shared} {Q E : Value → Shared → Prop}
set_option maxRecDepth 100000 in
set_option maxHeartbeats 4000000 in
theorem S_syntaxFault {mt : Str} {tm : Tok} {v2 : Value} {hn : Option Value} {news : Led}
    (B : Below A₀ base outer h₀) (F : Fr h₀ L s.heap m) (X : (hd.heap_1_39 w.params).In h₀) (N : News h₀ L s.heap news) (T : Top p loose mean mg mb h₀) (hk : cs.kind = .function)
    (ret : ∀ e t' d h1 k1 h2 k2 h' tk', Fr h₀ L h' m → News h₀ L h' ((e, excObj 136 t' (some d)) :: (d, faultD h1 k1 mt tm h2 k2 v2) :: news) → AllLt e news → e < d → Q (.ref e) { s with heap := h', toks := tk' }) :
    wpAny (model prog w) (topAt 880 1780 hn (envX cn cs L ca ccd cl) outer) (call (.ref 136) [.str mt tm, v2]) Q E s := by
  refine wpAny_call (e_make F N (X.keeps F.keep) (by k_is) (by k_is) (by k_is) (by simp [sizeLine_eq]) fun e t h' F' N' l1 l2 l0 => ?_)
  k_lt2 l2
  replace l1 := allLt_of l1
  replace l0 := allLt_of l0
  k_dflt (refine' code_def ?k1 ?k2 ?k3 ?k4 ?k5 ?kA ?kF ?kK ?k6 ?k7 ?k8 ?k9 ?kB ?_ ?c2 ?c3 ?c4 ?c5; (case kA => exact rfl); (case kF => exact rfl); (case kK => first | exact rfl | assumption); (case k2 => k_asm); (case k1 => k_asm); (case k3 => k_asm); (case k4 => k_asm); (case k5 => k_asm); (case k6 => k_is); (case k7 => k_is); (case k8 => k_room); (case k9 => first | exact BindsTo.of_eq rfl | exact binds_K (by k_in) rfl (by k_is) rfl rfl rfl); (case c5 => decide); (case kB => exact locs rfl); (case c2 => exact rfl); (case c3 => exact rfl); (case c4 => exact rfl); k_whole; intro g' L' h' FG' F' N' B' X' T'; (try dsimp only); (try k_lift B'); (try k_fold))
  k_steps
  exact ret _ _ _ _ _ _ _ _ _ (by k_asm) (news_3b (by assumption)) (by assumption) (by assumption)

set_option maxRecDepth 100000 in
set_option maxHeartbeats 4000000 in
theorem S_entityFault {mt : Str} {tm : Tok} {hn : Option Value} {news : Led}
    (B : Below A₀ base outer h₀) (F : Fr h₀ L s.heap m) (X : (hd.heap_1_39 w.params).In h₀) (N : News h₀ L s.heap news) (T : Top p loose mean mg mb h₀) (hk : cs.kind = .function)
    (ret : ∀ e t' d h' tk', Fr h₀ L h' m → News h₀ L h' ((e, excObj 148 t' (some d)) :: news) → AllLt e news → Q (.ref e) { s with heap := h', toks := tk' }) :
    wpAny (model prog w) (topAt 880 1780 hn (envX cn cs L ca ccd cl) outer) (call (.ref 148) [.str mt tm]) Q E s := by
  refine wpAny_call (e_make F N (X.keeps F.keep) (by k_is) (by k_is) (by k_is) (by simp [sizeLine_eq]) fun e t h' F' N' l1 l2 l0 => ?_)
  k_lt2 l2
  replace l1 := allLt_of l1
  replace l0 := allLt_of l0
  k_dflt (refine' code_def ?k1 ?k2 ?k3 ?k4 ?k5 ?kA ?kF ?kK ?k6 ?k7 ?k8 ?k9 ?kB ?_ ?c2 ?c3 ?c4 ?c5; (case kA => exact rfl); (case kF => exact rfl); (case kK => first | exact rfl | assumption); (case k2 => k_asm); (case k1 => k_asm); (case k3 => k_asm); (case k4 => k_asm); (case k5 => k_asm); (case k6 => k_is); (case k7 => k_is); (case k8 => k_room); (case k9 => first | exact BindsTo.of_eq rfl | exact binds_K (by k_in) rfl (by k_is) rfl rfl rfl); (case c5 => decide); (case kB => exact locs rfl); (case c2 => exact rfl); (case c3 => exact rfl); (case c4 => exact rfl); k_whole; intro g' L' h' FG' F' N' B' X' T'; (try dsimp only); (try k_lift B'); (try k_fold))
  k_steps
  exact ret _ _ _ _ _ (by k_asm) (news_3a (by assumption)) (by assumption)
example : True := by
  k_with "call ref" => (k_here; (with_reducible show wpAny _ _ (call (Value.ref 136) _) _ _ _); k_dflt (refine' use (D := 880) (U := 1780) ?u1 ?u2 ?u3 ?u4 (S_syntaxFault ?kB ?kF ?kX ?kN ?kT ?kk ?_); (case u1 => exact rfl); (case u2 => exact rfl); (case u3 => exact Nat.le_of_ble_eq_true rfl); (case u4 => exact Nat.le_of_ble_eq_true rfl); (case kF => k_asm); (case kN => k_asm); (case kB => k_asm); (case kX => k_asm); (case kT => k_asm); (case kk => first | exact rfl | assumption)); intro e' t' d' h1' k1' h2' k2' h' tk' F' N' l1' l2')
  trivial
variable {x dx : Addr} {T : Str} {k : Int} {h1 h2 : Int} {k1 t1 k2 t2 : Tok}
set_option maxRecDepth 100000 in
set_option maxHeartbeats 4000000 in
theorem S_fault {mt : Str} {tm : Tok}
    (B : Below A₀ base outer h₀) (F : Fr h₀ L s.heap m) (X : (hd.heap_1_39 w.params).In h₀) (N : News h₀ L s.heap ((x, instObj 268 dx) :: (dx, curD T k h1 k1 t1 h2 k2 t2) :: rest)) (TT : Top p loose mean mg mb h₀) (hk : cs.kind = .function)
    (hmt : mt.length ≤ 100)
    (rz : Faults base h₀ L m (envX cn cs L ca ccd cl) outer rest E s) :
    wpAny (model prog w) (topAt 860 1760 none (envX cn cs L ca ccd cl) outer) (call (.ref 194) [.ref x, .str mt tm]) Q E s := by
  refine wpAny_call ?_
  k_dflt (refine' code_def ?k1 ?k2 ?k3 ?k4 ?k5 ?kA ?kF ?kK ?k6 ?k7 ?k8 ?k9 ?kB ?_ ?c2 ?c3 ?c4 ?c5; (case kA => exact rfl); (case kF => exact rfl); (case kK => first | exact rfl | assumption); (case k2 => k_asm); (case k1 => k_asm); (case k3 => k_asm); (case k4 => k_asm); (case k5 => k_asm); (case k6 => k_is); (case k7 => k_is); (case k8 => k_room); (case k9 => first | exact BindsTo.of_eq rfl | exact binds_K (by k_in) rfl (by k_is) rfl rfl rfl); (case c5 => decide); (case kB => exact locs rfl); (case c2 => exact rfl); (case c3 => exact rfl); (case c4 => exact rfl); k_whole; intro g' L' h' FG' F' N' B' X' T'; (try dsimp only); (try k_lift B'); (try k_fold))
  k_steps
  (with_reducible rename Below _ _ _ _ => B')
  refine ⟨_, _, _, rfl, Frag.In.keeps (by k_asm) (Fr.keep F'), N'.get (.head _), ?_⟩
  obtain ⟨_, _, l3'⟩ := l1'
  refine leave_raiseD B' F' (news := (d', faultD h1' k1' mt tm h2' k2' (.int k t2)) :: rest) (cb_drop N' (by kcj_all)) (List.forall_mem_cons.mpr ⟨Nat.ne_of_gt l2', allLt_off l3'⟩) rfl rfl rfl (fun h' R u => rz _ _ _ _ _ _ _ _ _ _ _ _ hmt (by k_asm) R u) rfl rfl
end


-- C2
example : True := by
  k_with_none
  trivial
example : True := by
  k_with "subscriptTail Name Constant ref int" => (k_here; with_unfolding_all refine' s_item ?k1 ?k2 ?k3 ?k4 ?k5 ?_ ?k6; (case k1 => k_asm); (case k2 => k_mem); (case k3 => decide); (case k4 => decide); (case k5 => rfl); (case k6 => with_unfolding_all rfl); k_whole)
  trivial
example : True := by
  k_with "binaryOp Mod int int" => (refine s_mod (by omega) ?_)
  trivial
example : True := by
  k_with "binaryOp FloorDiv int int" => (refine s_div (by omega) (by omega) ?_)
  trivial
example : True := by
  k_with "binaryOp Mult int int" => (refine s_mul (by omega) (by omega) ?_)
  trivial
example : True := by
  k_with "getMethod type:Exception" => (k_here; refine' method_type ?F ?X ?m (by decide +kernel) ?e ?h ?_; (case F => k_asm); (case X => k_asm); (case m => exact meta_Exception); (case e => k_dflt k_is); (case h => k_handed))
  trivial
example : True := by
  k_with "call builtin:Exception.__init__" => (k_here; k_dflt (refine' e_init ?kF ?kN ?kn ?kX ?kK ?kr ?_; (case kF => k_asm); (case kN => k_asm); (case kn => k_all); (case kX => k_in); (case kK => k_is); (case kr => simp [sizeLine_eq])); intro t' h' F' N' l1 l2; (k_lt2 l2); (replace l1 := allLt_of l1))
  trivial
example : True := by
  k_with "setAttr ref" => (k_here; k_dflt (refine' e_set_new ?kF ?kN ?kn ?kX ?k1 ?k2 ?k3 ?k4 ?kc ?kh ?km ?kr ?kt ?ks ?_; (case kF => k_asm); (case kN => first | k_asm | exact news_off (by k_asm)); (case kn => k_all); (case kX => k_in); (case k1 => rfl); (case k2 => rfl); (case k3 => rfl); (case k4 => rfl); (case kc => k_is); (case kh => rfl); (case km => k_is); (case kr => first | exact refuse136 _ | exact refuse148 _); (case kt => k_is); (case ks => k_is)); intro d' hs' ks' h' F' N' l3 l4; (k_lt2 l4); (replace l3 := allLt_of l3); (try (simp only [AllLt] at l3)); (try (obtain ⟨l5, l3⟩ := l3)); (try (obtain ⟨l6, l3⟩ := l3)))
  trivial
example : True := by
  k_with "setAttr ref" => (k_here; k_dflt (refine' e_set_old ?kF ?kN ?kg ?kn ?kX ?k1 ?k2 ?k3 ?kc ?kh ?km ?kr ?kt ?ks ?k5 ?ke ?k6 ?_; (case kF => k_asm); (case kN => exact news_swap (by k_asm)); (case kg => exact News.get (by k_asm) (.head _)); (case kn => k_all); (case kX => k_in); (case k1 => rfl); (case k2 => rfl); (case k3 => rfl); (case kc => k_is); (case kh => rfl); (case km => k_is); (case kr => first | exact refuse136 _ | exact refuse148 _); (case kt => k_is); (case ks => k_is); (case k5 => (rw [aRefKeyMayBeTheName_at, Bool.and_eq_false_iff]; right; simp [DictEntry.refKey])); (case ke => k_put); (case k6 => simp)); intro h' F' N')
  trivial
example : True := by
  k_with "exec Raise some none" => (k_here; k_dflt (refine' e_exec0 (C := 136) ?kh ?kX ?kK ?_; (case kh => rfl); (case kX => k_asm); (case kK => k_is)))
  trivial
example : True := by
  k_with "call ref" => (k_here; (with_reducible show wpAny _ _ (call (Value.ref 194) _) _ _ _); k_dflt (refine' use (D := 860) (U := 1760) ?u1 ?u2 ?u3 ?u4 (S_fault ?kB ?kF ?kX ?kN ?kT ?kk ?km ?_); (case u1 => exact rfl); (case u2 => exact rfl); (case u3 => exact Nat.le_of_ble_eq_true rfl); (case u4 => exact Nat.le_of_ble_eq_true rfl); (case kF => k_asm); (case kN => k_asm); (case kB => k_asm); (case kX => k_asm); (case kT => k_asm); (case kk => first | exact rfl | assumption); (case km => first | assumption | omega | (rw [PySem.ofString_length]; decide) | exact s_msg (by rw [PySem.ofString_length]; decide) (by first | omega | (rw [PySem.ofString_length]; decide)))); intro g₂' e' d' h1' k1' mt' t1' h2' k2' v2' h' tk' lm' F' R' U')
  trivial
example : True := by
  k_with "leaving ref" => (k_here; (with_reducible rename RaisedD _ _ _ _ _ _ _ _ _ _ => rdX); k_dflt (refine' leave_onD ?kK ?kF rdX ?kU ?_ ?kf; (case kf => exact rfl); (case kF => k_asm); (case kK => k_asm); (case kU => k_asm)); intro h' R' U')
  trivial
section
variable {prog : Program} {w : World} {p : Program} {loose : List Str} {mean : ExcName → Option Value} {mg mb : Str → Option Value} {A₀ : Around} {base h₀ : Heap} {outer : List Env} {cn : Str} {cs : Scope} {ca L : Addr} {ccd : Value} {cl : List (Str × Addr)} {m : Str → Option Value} {rest : Led} {s : Shared} {Q E : Value → Shared → Prop}
variable {x dx : Addr} {T : Str} {k : Int} {h1 h2 : Int} {k1 t1 k2 t2 : Tok}
set_option maxRecDepth 100000 in
set_option maxHeartbeats 4000000 in
theorem S_skip {W : Str} {tW : Tok}
    (B : Below A₀ base outer h₀) (F : Fr h₀ L s.heap m) (X : (hd.heap_1_39 w.params).In h₀) (N : News h₀ L s.heap ((x, instObj 268 dx) :: (dx, curD T k h1 k1 t1 h2 k2 t2) :: rest)) (TT : Top p loose mean mg mb h₀) (hk : cs.kind = .function)
    (hxd : @LT.lt Nat _ dx x) (hdx : ∀ p ∈ rest, p.1 ≠ dx) (hx : ∀ p ∈ rest, p.1 ≠ x) (hT : T.length ≤ 10000) (hW : W.length ≤ 100) (hk0 : 0 ≤ k) (hk1 : k ≤ T.length)
    (r1 : Txt.startswith3 T W k = true → k + (W.length : Int) ≤ T.length → ∀ t2' h' tk', Fr h₀ L h' m → News h₀ L h' ((x, instObj 268 dx) :: (dx, curD T (k + (W.length : Int)) h1 k1 t1 h2 k2 t2') :: rest) → Q (.bool true) { s with heap := h', toks := tk' })
    (r0 : Txt.startswith3 T W k = false → ∀ h' tk', Fr h₀ L h' m → News h₀ L h' ((x, instObj 268 dx) :: (dx, curD T k h1 k1 t1 h2 k2 t2) :: rest) → Q (.bool false) { s with heap := h', toks := tk' }) :
    wpAny (model prog w) (topAt 840 1740 none (envX cn cs L ca ccd cl) outer) (call (.ref 209) [.ref x, .str W tW]) Q E s := by
  refine wpAny_call ?_
  k_dflt (refine' code_def ?k1 ?k2 ?k3 ?k4 ?k5 ?kA ?kF ?kK ?k6 ?k7 ?k8 ?k9 ?kB ?_ ?c2 ?c3 ?c4 ?c5; (case kA => exact rfl); (case kF => exact rfl); (case kK => first | exact rfl | assumption); (case k2 => k_asm); (case k1 => k_asm); (case k3 => k_asm); (case k4 => k_asm); (case k5 => k_asm); (case k6 => k_is); (case k7 => k_is); (case k8 => k_room); (case k9 => first | exact BindsTo.of_eq rfl | exact binds_K (by k_in) rfl (by k_is) rfl rfl rfl); (case c5 => decide); (case kB => exact locs rfl); (case c2 => exact rfl); (case c3 => exact rfl); (case c4 => exact rfl); k_whole; intro g' L' h' FG' F' N' B' X' T'; (try dsimp only); (try k_lift B'); (try k_fold))
  k_steps
  · exact r1 (by assumption) (starts_le hk0 (by assumption)) _ _ _ (by k_asm) (by k_asm)
  · exact r0 (by assumption) _ _ (by k_asm) (by k_asm)
example : True := by
  k_with "call ref" => (k_here; (with_reducible show wpAny _ _ (call (Value.ref 209) _) _ _ _); k_dflt (refine' use (D := 840) (U := 1740) ?u1 ?u2 ?u3 ?u4 (S_skip ?kB ?kF ?kX ?kN ?kT ?kk ?kd ?ka ?kb ?kl ?kw ?k0 ?k1 ?r1 ?r0); (case u1 => exact rfl); (case u2 => exact rfl); (case u3 => exact Nat.le_of_ble_eq_true rfl); (case u4 => exact Nat.le_of_ble_eq_true rfl); (case kF => k_asm); (case kN => k_asm); (case kB => k_asm); (case kX => k_asm); (case kT => k_asm); (case kk => first | exact rfl | assumption); (case kd => k_asm); (case ka => k_all); (case kb => k_all); (case kl => assumption); (case kw => first | omega | (rw [PySem.ofString_length]; decide)); (case k0 => omega); (case k1 => omega)); (case' r1 => intro hc' hd' t2' h' tk' F' N'); (case' r0 => intro hc' h' tk' F' N'))
  trivial
set_option maxRecDepth 100000 in
set_option maxHeartbeats 4000000 in
theorem S_expect {W : Str} {tW : Tok}
    (B : Below A₀ base outer h₀) (F : Fr h₀ L s.heap m) (X : (hd.heap_1_39 w.params).In h₀) (N : News h₀ L s.heap ((x, instObj 268 dx) :: (dx, curD T k h1 k1 t1 h2 k2 t2) :: rest)) (TT : Top p loose mean mg mb h₀) (hk : cs.kind = .function)
    (hxd : @LT.lt Nat _ dx x) (hdx : ∀ p ∈ rest, p.1 ≠ dx) (hx : ∀ p ∈ rest, p.1 ≠ x) (hT : T.length ≤ 10000) (hW : W.length ≤ 40) (hk0 : 0 ≤ k) (hk1 : k ≤ T.length)
    (r1 : Txt.startswith3 T W k = true → k + (W.length : Int) ≤ T.length → ∀ t2' h' tk', Fr h₀ L h' m → News h₀ L h' ((x, instObj 268 dx) :: (dx, curD T (k + (W.length : Int)) h1 k1 t1 h2 k2 t2') :: rest) → Q .none { s with heap := h', toks := tk' })
    (rz : Txt.startswith3 T W k = false → Faults base h₀ L m (envX cn cs L ca ccd cl) outer rest E s) :
    wpAny (model prog w) (topAt 820 1720 none (envX cn cs L ca ccd cl) outer) (call (.ref 216) [.ref x, .str W tW]) Q E s := by
  refine wpAny_call ?_
  k_dflt (refine' code_def ?k1 ?k2 ?k3 ?k4 ?k5 ?kA ?kF ?kK ?k6 ?k7 ?k8 ?k9 ?kB ?_ ?c2 ?c3 ?c4 ?c5; (case kA => exact rfl); (case kF => exact rfl); (case kK => first | exact rfl | assumption); (case k2 => k_asm); (case k1 => k_asm); (case k3 => k_asm); (case k4 => k_asm); (case k5 => k_asm); (case k6 => k_is); (case k7 => k_is); (case k8 => k_room); (case k9 => first | exact BindsTo.of_eq rfl | exact binds_K (by k_in) rfl (by k_is) rfl rfl rfl); (case c5 => decide); (case kB => exact locs rfl); (case c2 => exact rfl); (case c3 => exact rfl); (case c4 => exact rfl); k_whole; intro g' L' h' FG' F' N' B' X' T'; (try dsimp only); (try k_lift B'); (try k_fold))
  k_steps
  · exact rz (by assumption) _ _ _ _ _ _ _ _ _ _ _ _ (by assumption) (by k_asm) (by assumption) (by assumption)
  · exact r1 (by assumption) (by assumption) _ _ _ (by k_asm) (by k_asm)
end


-- C3
example : True := by
  k_with_none
  trivial
example : True := by
  k_with "subscriptTail Name Constant ref int" => (k_here; with_unfolding_all refine' s_item ?k1 ?k2 ?k3 ?k4 ?k5 ?_ ?k6; (case k1 => k_asm); (case k2 => k_mem); (case k3 => decide); (case k4 => decide); (case k5 => rfl); (case k6 => with_unfolding_all rfl); k_whole)
  trivial
example : True := by
  k_with "binaryOp Mod int int" => (refine s_mod (by omega) ?_)
  trivial
example : True := by
  k_with "binaryOp FloorDiv int int" => (refine s_div (by omega) (by omega) ?_)
  trivial
example : True := by
  k_with "binaryOp Mult int int" => (refine s_mul (by omega) (by omega) ?_)
  trivial
example : True := by
  k_with "getMethod type:Exception" => (k_here; refine' method_type ?F ?X ?m (by decide +kernel) ?e ?h ?_; (case F => k_asm); (case X => k_asm); (case m => exact meta_Exception); (case e => k_dflt k_is); (case h => k_handed))
  trivial
example : True := by
  k_with "call builtin:Exception.__init__" => (k_here; k_dflt (refine' e_init ?kF ?kN ?kn ?kX ?kK ?kr ?_; (case kF => k_asm); (case kN => k_asm); (case kn => k_all); (case kX => k_in); (case kK => k_is); (case kr => simp [sizeLine_eq])); intro t' h' F' N' l1 l2; (k_lt2 l2); (replace l1 := allLt_of l1))
  trivial
example : True := by
  k_with "setAttr ref" => (k_here; k_dflt (refine' e_set_new ?kF ?kN ?kn ?kX ?k1 ?k2 ?k3 ?k4 ?kc ?kh ?km ?kr ?kt ?ks ?_; (case kF => k_asm); (case kN => first | k_asm | exact news_off (by k_asm)); (case kn => k_all); (case kX => k_in); (case k1 => rfl); (case k2 => rfl); (case k3 => rfl); (case k4 => rfl); (case kc => k_is); (case kh => rfl); (case km => k_is); (case kr => first | exact refuse136 _ | exact refuse148 _); (case kt => k_is); (case ks => k_is)); intro d' hs' ks' h' F' N' l3 l4; (k_lt2 l4); (replace l3 := allLt_of l3); (try (simp only [AllLt] at l3)); (try (obtain ⟨l5, l3⟩ := l3)); (try (obtain ⟨l6, l3⟩ := l3)))
  trivial
example : True := by
  k_with "setAttr ref" => (k_here; k_dflt (refine' e_set_old ?kF ?kN ?kg ?kn ?kX ?k1 ?k2 ?k3 ?kc ?kh ?km ?kr ?kt ?ks ?k5 ?ke ?k6 ?_; (case kF => k_asm); (case kN => exact news_swap (by k_asm)); (case kg => exact News.get (by k_asm) (.head _)); (case kn => k_all); (case kX => k_in); (case k1 => rfl); (case k2 => rfl); (case k3 => rfl); (case kc => k_is); (case kh => rfl); (case km => k_is); (case kr => first | exact refuse136 _ | exact refuse148 _); (case kt => k_is); (case ks => k_is); (case k5 => (rw [aRefKeyMayBeTheName_at, Bool.and_eq_false_iff]; right; simp [DictEntry.refKey])); (case ke => k_put); (case k6 => simp)); intro h' F' N')
  trivial
example : True := by
  k_with "exec Raise some none" => (k_here; k_dflt (refine' e_exec0 (C := 136) ?kh ?kX ?kK ?_; (case kh => rfl); (case kX => k_asm); (case kK => k_is)))
  trivial
example : True := by
  k_with "exec While BoolOp" => (k_here; rename Fr _ _ _ _ => lF'; rename News _ _ _ _ => lN'; k_dflt (refine' still_while (σ := Int × Tok) (fun c => (x, instObj 268 dx) :: (dx, curD T c.1 h1 k1 t1 h2 k2 c.2) :: rest) (fun c => 0 ≤ c.1 ∧ c.1 ≤ T.length ∧ spEnd T c.1 = spEnd T k) (fun c => (T.length - c.1).toNat) (k, t2) lF' ?kn ⟨hk0, hk1, rfl⟩ ?_); (case kn => k_asm); clear lF' lN'; rintro ⟨c, tc⟩ gh gt ⟨hc0, hc1, hcs⟩ lF' lN'; dsimp only at hc0 hc1 hcs lN')
  trivial
example : True := by
  k_with "subscriptTail" => (k_here; (with_reducible show wpAny _ _ (subscriptTail _ _ (Value.str _ _) (Value.int _ _)) _ _ _); refine item_str (fitsSsize_of (N := 9223372036854775808) (by omega) (by omega) (Int.le_refl _)) (by omega) (by omega) ?_ (by with_unfolding_all rfl) (by intro _; with_unfolding_all rfl); intro hi1)
  trivial
section
variable {prog : Program} {w : World} {p : Program} {loose : List Str} {mean : ExcName → Option Value} {mg mb : Str → Option Value} {A₀ : Around} {base h₀ : Heap} {outer : List Env} {cn : Str} {cs : Scope} {ca L : Addr} {ccd : Value} {cl : List (Str × Addr)} {m : Str → Option Value} {rest : Led} {s : Shared} {Q E : Value → Shared → Prop}
variable {x dx : Addr} {T : Str} {k : Int} {h1 h2 : Int} {k1 t1 k2 t2 : Tok}
set_option maxRecDepth 100000 in
set_option maxHeartbeats 4000000 in
theorem S_spaces 
    (B : Below A₀ base outer h₀) (F : Fr h₀ L s.heap m) (X : (hd.heap_1_39 w.params).In h₀) (N : News h₀ L s.heap ((x, instObj 268 dx) :: (dx, curD T k h1 k1 t1 h2 k2 t2) :: rest)) (TT : Top p loose mean mg mb h₀) (hk : cs.kind = .function)
    (hxd : @LT.lt Nat _ dx x) (hdx : ∀ p ∈ rest, p.1 ≠ dx) (hx : ∀ p ∈ rest, p.1 ≠ x) (hT : T.length ≤ 10000) (hk0 : 0 ≤ k) (hk1 : k ≤ T.length)
    (ret : 0 ≤ spEnd T k → spEnd T k ≤ T.length → ∀ t0 t2' h' tk', Fr h₀ L h' m → News h₀ L h' ((x, instObj 268 dx) :: (dx, curD T (spEnd T k) h1 k1 t1 h2 k2 t2') :: rest) → Q (.int (spEnd T k - k) t0) { s with heap := h', toks := tk' }) :
    wpAny (model prog w) (topAt 840 1740 none (envX cn cs L ca ccd cl) outer) (call (.ref 237) [.ref x]) Q E s := by
  refine wpAny_call ?_
  k_dflt (refine' code_def ?k1 ?k2 ?k3 ?k4 ?k5 ?kA ?kF ?kK ?k6 ?k7 ?k8 ?k9 ?kB ?_ ?c2 ?c3 ?c4 ?c5; (case kA => exact rfl); (case kF => exact rfl); (case kK => first | exact rfl | assumption); (case k2 => k_asm); (case k1 => k_asm); (case k3 => k_asm); (case k4 => k_asm); (case k5 => k_asm); (case k6 => k_is); (case k7 => k_is); (case k8 => k_room); (case k9 => first | exact BindsTo.of_eq rfl | exact binds_K (by k_in) rfl (by k_is) rfl rfl rfl); (case c5 => decide); (case kB => exact locs rfl); (case c2 => exact rfl); (case c3 => exact rfl); (case c4 => exact rfl); k_whole; intro g' L' h' FG' F' N' B' X' T'; (try dsimp only); (try k_lift B'); (try k_fold))
  k_steps
  all_goals (first | (refine turn_next (c + 1, _) (by assumption) (by k_asm) ⟨by omega, by omega, (spEnd_step (isSp_of (by assumption) (by assumption))).trans (by assumption)⟩ (by dsimp only; omega)) | skip)
  all_goals (first | (exfalso; exact bne_empty (by assumption) (by assumption)) | skip)
  all_goals (obtain rfl : c = spEnd T k := (spEnd_stop (by first | exact isSp_off (by assumption) | exact isSp_no (by assumption))).symm.trans hcs)
  all_goals exact ret (by assumption) (by assumption) _ _ _ _ (by k_asm) (by k_asm)
end


-- C4
example : True := by
  k_with_none
  trivial
example : True := by
  k_with "subscriptTail Name Constant ref int" => (k_here; with_unfolding_all refine' s_item ?k1 ?k2 ?k3 ?k4 ?k5 ?_ ?k6; (case k1 => k_asm); (case k2 => k_mem); (case k3 => decide); (case k4 => decide); (case k5 => rfl); (case k6 => with_unfolding_all rfl); k_whole)
  trivial
example : True := by
  k_with "binaryOp Mod int int" => (refine s_mod (by omega) ?_)
  trivial
example : True := by
  k_with "binaryOp FloorDiv int int" => (refine s_div (by omega) (by omega) ?_)
  trivial
example : True := by
  k_with "binaryOp Mult int int" => (refine s_mul (by omega) (by omega) ?_)
  trivial
example : True := by
  k_with "getMethod type:Exception" => (k_here; refine' method_type ?F ?X ?m (by decide +kernel) ?e ?h ?_; (case F => k_asm); (case X => k_asm); (case m => exact meta_Exception); (case e => k_dflt k_is); (case h => k_handed))
  trivial
example : True := by
  k_with "call builtin:Exception.__init__" => (k_here; k_dflt (refine' e_init ?kF ?kN ?kn ?kX ?kK ?kr ?_; (case kF => k_asm); (case kN => k_asm); (case kn => k_all); (case kX => k_in); (case kK => k_is); (case kr => simp [sizeLine_eq])); intro t' h' F' N' l1 l2; (k_lt2 l2); (replace l1 := allLt_of l1))
  trivial
example : True := by
  k_with "setAttr ref" => (k_here; k_dflt (refine' e_set_new ?kF ?kN ?kn ?kX ?k1 ?k2 ?k3 ?k4 ?kc ?kh ?km ?kr ?kt ?ks ?_; (case kF => k_asm); (case kN => first | k_asm | exact news_off (by k_asm)); (case kn => k_all); (case kX => k_in); (case k1 => rfl); (case k2 => rfl); (case k3 => rfl); (case k4 => rfl); (case kc => k_is); (case kh => rfl); (case km => k_is); (case kr => first | exact refuse136 _ | exact refuse148 _); (case kt => k_is); (case ks => k_is)); intro d' hs' ks' h' F' N' l3 l4; (k_lt2 l4); (replace l3 := allLt_of l3); (try (simp only [AllLt] at l3)); (try (obtain ⟨l5, l3⟩ := l3)); (try (obtain ⟨l6, l3⟩ := l3)))
  trivial
example : True := by
  k_with "setAttr ref" => (k_here; k_dflt (refine' e_set_old ?kF ?kN ?kg ?kn ?kX ?k1 ?k2 ?k3 ?kc ?kh ?km ?kr ?kt ?ks ?k5 ?ke ?k6 ?_; (case kF => k_asm); (case kN => exact news_swap (by k_asm)); (case kg => exact News.get (by k_asm) (.head _)); (case kn => k_all); (case kX => k_in); (case k1 => rfl); (case k2 => rfl); (case k3 => rfl); (case kc => k_is); (case kh => rfl); (case km => k_is); (case kr => first | exact refuse136 _ | exact refuse148 _); (case kt => k_is); (case ks => k_is); (case k5 => (rw [aRefKeyMayBeTheName_at, Bool.and_eq_false_iff]; right; simp [DictEntry.refKey])); (case ke => k_put); (case k6 => simp)); intro h' F' N')
  trivial
example : True := by
  k_with "exec Raise some none" => (k_here; k_dflt (refine' e_exec0 (C := 136) ?kh ?kX ?kK ?_; (case kh => rfl); (case kX => k_asm); (case kK => k_is)))
  trivial
example : True := by
  k_with "call ref" => (k_here; (with_reducible show wpAny _ _ (call (Value.ref 194) _) _ _ _); k_dflt (refine' use (D := 860) (U := 1760) ?u1 ?u2 ?u3 ?u4 (S_fault ?kB ?kF ?kX ?kN ?kT ?kk ?km ?_); (case u1 => exact rfl); (case u2 => exact rfl); (case u3 => exact Nat.le_of_ble_eq_true rfl); (case u4 => exact Nat.le_of_ble_eq_true rfl); (case kF => k_asm); (case kN => k_asm); (case kB => k_asm); (case kX => k_asm); (case kT => k_asm); (case kk => first | exact rfl | assumption); (case km => first | assumption | omega | (rw [PySem.ofString_length]; decide) | exact s_msg (by rw [PySem.ofString_length]; decide) (by first | omega | (rw [PySem.ofString_length]; decide)))); intro g₂' e' d' h1' k1' mt' t1' h2' k2' v2' h' tk' lm' F' R' U')
  trivial
example : True := by
  k_with "leaving ref" => (k_here; (with_reducible rename RaisedD _ _ _ _ _ _ _ _ _ _ => rdX); k_dflt (refine' leave_onD ?kK ?kF rdX ?kU ?_ ?kf; (case kf => exact rfl); (case kF => k_asm); (case kK => k_asm); (case kU => k_asm)); intro h' R' U')
  trivial
example : True := by
  k_with "call ref" => (k_here; (with_reducible show wpAny _ _ (call (Value.ref 237) _) _ _ _); k_dflt (refine' use (D := 840) (U := 1740) ?u1 ?u2 ?u3 ?u4 (S_spaces ?kB ?kF ?kX ?kN ?kT ?kk ?kd ?ka ?kb ?kl ?k0 ?k1 ?r1); (case u1 => exact rfl); (case u2 => exact rfl); (case u3 => exact Nat.le_of_ble_eq_true rfl); (case u4 => exact Nat.le_of_ble_eq_true rfl); (case kF => k_asm); (case kN => k_asm); (case kB => k_asm); (case kX => k_asm); (case kT => k_asm); (case kk => first | exact rfl | assumption); (case kd => k_asm); (case ka => k_all); (case kb => k_all); (case kl => assumption); (case k0 => omega); (case k1 => omega)); (case' r1 => intro he0 he1 t0' t2' h' tk' F' N'))
  trivial
example : True := by
  k_with "call ref" => (k_here; (with_reducible show wpAny _ _ (call (Value.ref 216) _) _ _ _); k_dflt (refine' use (D := 820) (U := 1720) ?u1 ?u2 ?u3 ?u4 (S_expect ?kB ?kF ?kX ?kN ?kT ?kk ?kd ?ka ?kb ?kl ?kw ?k0 ?k1 ?r1 ?rz); (case u1 => exact rfl); (case u2 => exact rfl); (case u3 => exact Nat.le_of_ble_eq_true rfl); (case u4 => exact Nat.le_of_ble_eq_true rfl); (case kF => k_asm); (case kN => k_asm); (case kB => k_asm); (case kX => k_asm); (case kT => k_asm); (case kk => first | exact rfl | assumption); (case kd => k_asm); (case ka => k_all); (case kb => k_all); (case kl => assumption); (case kw => first | omega | (rw [PySem.ofString_length]; decide)); (case k0 => omega); (case k1 => omega)); (case' r1 => intro hc' hd' t2' h' tk' F' N'); (case' rz => (intro hc' g₂ e d i1 j1 mt u1 i2 j2 v2 h' tk' hmt F' R' U')))
  trivial
section
variable {prog : Program} {w : World} {p : Program} {loose : List Str} {mean : ExcName → Option Value} {mg mb : Str → Option Value} {A₀ : Around} {base h₀ : Heap} {outer : List Env} {cn : Str} {cs : Scope} {ca L : Addr} {ccd : Value} {cl : List (Str × Addr)} {m : Str → Option Value} {rest : Led} {s : Shared} {Q E : Value → Shared → Prop}
variable {x dx : Addr} {T : Str} {k : Int} {h1 h2 : Int} {k1 t1 k2 t2 : Tok}
set_option maxRecDepth 100000 in
set_option maxHeartbeats 4000000 in
theorem S_need
    (B : Below A₀ base outer h₀) (F : Fr h₀ L s.heap m) (X : (hd.heap_1_39 w.params).In h₀) (N : News h₀ L s.heap ((x, instObj 268 dx) :: (dx, curD T k h1 k1 t1 h2 k2 t2) :: rest)) (TT : Top p loose mean mg mb h₀) (hk : cs.kind = .function)
    (hxd : @LT.lt Nat _ dx x) (hdx : ∀ p ∈ rest, p.1 ≠ dx) (hx : ∀ p ∈ rest, p.1 ≠ x) (hT : T.length ≤ 10000) (hk0 : 0 ≤ k) (hk1 : k ≤ T.length)
    (r1 : spEnd T k ≠ k → 0 ≤ spEnd T k → spEnd T k ≤ T.length → ∀ t2' h' tk', Fr h₀ L h' m → News h₀ L h' ((x, instObj 268 dx) :: (dx, curD T (spEnd T k) h1 k1 t1 h2 k2 t2') :: rest) → Q .none { s with heap := h', toks := tk' })
    (rz : spEnd T k = k → Faults base h₀ L m (envX cn cs L ca ccd cl) outer rest E s) :
    wpAny (model prog w) (topAt 800 1700 none (envX cn cs L ca ccd cl) outer) (call (.ref 244) [.ref x]) Q E s := by
  refine wpAny_call ?_
  k_dflt (refine' code_def ?k1 ?k2 ?k3 ?k4 ?k5 ?kA ?kF ?kK ?k6 ?k7 ?k8 ?k9 ?kB ?_ ?c2 ?c3 ?c4 ?c5; (case kA => exact rfl); (case kF => exact rfl); (case kK => first | exact rfl | assumption); (case k2 => k_asm); (case k1 => k_asm); (case k3 => k_asm); (case k4 => k_asm); (case k5 => k_asm); (case k6 => k_is); (case k7 => k_is); (case k8 => k_room); (case k9 => first | exact BindsTo.of_eq rfl | exact binds_K (by k_in) rfl (by k_is) rfl rfl rfl); (case c5 => decide); (case kB => exact locs rfl); (case c2 => exact rfl); (case c3 => exact rfl); (case c4 => exact rfl); k_whole; intro g' L' h' FG' F' N' B' X' T'; (try dsimp only); (try k_lift B'); (try k_fold))
  k_steps
  · exact rz (by omega) _ _ _ _ _ _ _ _ _ _ _ _ (by assumption) (by k_asm) (by assumption) (by assumption)
  · exact r1 (by omega) (by assumption) (by assumption) _ _ _ (by k_asm) (by k_asm)
set_option maxRecDepth 100000 in
set_option maxHeartbeats 4000000 in
theorem S_until {W : Str} {tW : Tok}
    (B : Below A₀ base outer h₀) (F : Fr h₀ L s.heap m) (X : (hd.heap_1_39 w.params).In h₀) (N : News h₀ L s.heap ((x, instObj 268 dx) :: (dx, curD T k h1 k1 t1 h2 k2 t2) :: rest)) (TT : Top p loose mean mg mb h₀) (hk : cs.kind = .function)
    (hxd : @LT.lt Nat _ dx x) (hdx : ∀ p ∈ rest, p.1 ≠ dx) (hx : ∀ p ∈ rest, p.1 ≠ x) (hT : T.length ≤ 10000) (hk0 : 0 ≤ k) (hk1 : k ≤ T.length)
    (hW : W.length ≤ 40)
    (r1 : 0 ≤ Txt.find3 T W k → Txt.find3 T W k + (W.length : Int) ≤ T.length → (Txt.slice T (some k) (some (Txt.find3 T W k))).length ≤ T.length → ∀ t0 t2' h' tk', Fr h₀ L h' m → News h₀ L h' ((x, instObj 268 dx) :: (dx, curD T (Txt.find3 T W k + (W.length : Int)) h1 k1 t1 h2 k2 t2') :: rest) → Q (.str (Txt.slice T (some k) (some (Txt.find3 T W k))) t0) { s with heap := h', toks := tk' })
    (rz : Txt.find3 T W k < 0 → Faults base h₀ L m (envX cn cs L ca ccd cl) outer rest E s) :
    wpAny (model prog w) (topAt 800 1700 none (envX cn cs L ca ccd cl) outer) (call (.ref 223) [.ref x, .str W tW]) Q E s := by
  refine wpAny_call ?_
  k_dflt (refine' code_def ?k1 ?k2 ?k3 ?k4 ?k5 ?kA ?kF ?kK ?k6 ?k7 ?k8 ?k9 ?kB ?_ ?c2 ?c3 ?c4 ?c5; (case kA => exact rfl); (case kF => exact rfl); (case kK => first | exact rfl | assumption); (case k2 => k_asm); (case k1 => k_asm); (case k3 => k_asm); (case k4 => k_asm); (case k5 => k_asm); (case k6 => k_is); (case k7 => k_is); (case k8 => k_room); (case k9 => first | exact BindsTo.of_eq rfl | exact binds_K (by k_in) rfl (by k_is) rfl rfl rfl); (case c5 => decide); (case kB => exact locs rfl); (case c2 => exact rfl); (case c3 => exact rfl); (case c4 => exact rfl); k_whole; intro g' L' h' FG' F' N' B' X' T'; (try dsimp only); (try k_lift B'); (try k_fold))
  k_steps
  · exact rz (by omega) _ _ _ _ _ _ _ _ _ _ _ _ (by assumption) (by k_asm) (by assumption) (by assumption)
  · exact r1 (by omega) (find3_le (by omega)) (by assumption) _ _ _ _ (by k_asm) (by k_asm)
end


-- C5
example : True := by
  k_with_none
  trivial
example : True := by
  k_with "subscriptTail Name Constant ref int" => (k_here; with_unfolding_all refine' s_item ?k1 ?k2 ?k3 ?k4 ?k5 ?_ ?k6; (case k1 => k_asm); (case k2 => k_mem); (case k3 => decide); (case k4 => decide); (case k5 => rfl); (case k6 => with_unfolding_all rfl); k_whole)
  trivial
example : True := by
  k_with "binaryOp Mod int int" => (refine s_mod (by omega) ?_)
  trivial
example : True := by
  k_with "binaryOp FloorDiv int int" => (refine s_div (by omega) (by omega) ?_)
  trivial
example : True := by
  k_with "binaryOp Mult int int" => (refine s_mul (by omega) (by omega) ?_)
  trivial
example : True := by
  k_with "getMethod type:Exception" => (k_here; refine' method_type ?F ?X ?m (by decide +kernel) ?e ?h ?_; (case F => k_asm); (case X => k_asm); (case m => exact meta_Exception); (case e => k_dflt k_is); (case h => k_handed))
  trivial
example : True := by
  k_with "call builtin:Exception.__init__" => (k_here; k_dflt (refine' e_init ?kF ?kN ?kn ?kX ?kK ?kr ?_; (case kF => k_asm); (case kN => k_asm); (case kn => k_all); (case kX => k_in); (case kK => k_is); (case kr => simp [sizeLine_eq])); intro t' h' F' N' l1 l2; (k_lt2 l2); (replace l1 := allLt_of l1))
  trivial
example : True := by
  k_with "setAttr ref" => (k_here; k_dflt (refine' e_set_new ?kF ?kN ?kn ?kX ?k1 ?k2 ?k3 ?k4 ?kc ?kh ?km ?kr ?kt ?ks ?_; (case kF => k_asm); (case kN => first | k_asm | exact news_off (by k_asm)); (case kn => k_all); (case kX => k_in); (case k1 => rfl); (case k2 => rfl); (case k3 => rfl); (case k4 => rfl); (case kc => k_is); (case kh => rfl); (case km => k_is); (case kr => first | exact refuse136 _ | exact refuse148 _); (case kt => k_is); (case ks => k_is)); intro d' hs' ks' h' F' N' l3 l4; (k_lt2 l4); (replace l3 := allLt_of l3); (try (simp only [AllLt] at l3)); (try (obtain ⟨l5, l3⟩ := l3)); (try (obtain ⟨l6, l3⟩ := l3)))
  trivial
example : True := by
  k_with "setAttr ref" => (k_here; k_dflt (refine' e_set_old ?kF ?kN ?kg ?kn ?kX ?k1 ?k2 ?k3 ?kc ?kh ?km ?kr ?kt ?ks ?k5 ?ke ?k6 ?_; (case kF => k_asm); (case kN => exact news_swap (by k_asm)); (case kg => exact News.get (by k_asm) (.head _)); (case kn => k_all); (case kX => k_in); (case k1 => rfl); (case k2 => rfl); (case k3 => rfl); (case kc => k_is); (case kh => rfl); (case km => k_is); (case kr => first | exact refuse136 _ | exact refuse148 _); (case kt => k_is); (case ks => k_is); (case k5 => (rw [aRefKeyMayBeTheName_at, Bool.and_eq_false_iff]; right; simp [DictEntry.refKey])); (case ke => k_put); (case k6 => simp)); intro h' F' N')
  trivial
example : True := by
  k_with "exec Raise some none" => (k_here; k_dflt (refine' e_exec0 (C := 136) ?kh ?kX ?kK ?_; (case kh => rfl); (case kX => k_asm); (case kK => k_is)))
  trivial
example : True := by
  k_with "call ref" => (k_here; (with_reducible show wpAny _ _ (call (Value.ref 194) _) _ _ _); k_dflt (refine' use (D := 860) (U := 1760) ?u1 ?u2 ?u3 ?u4 (S_fault ?kB ?kF ?kX ?kN ?kT ?kk ?km ?_); (case u1 => exact rfl); (case u2 => exact rfl); (case u3 => exact Nat.le_of_ble_eq_true rfl); (case u4 => exact Nat.le_of_ble_eq_true rfl); (case kF => k_asm); (case kN => k_asm); (case kB => k_asm); (case kX => k_asm); (case kT => k_asm); (case kk => first | exact rfl | assumption); (case km => first | assumption | omega | (rw [PySem.ofString_length]; decide) | exact s_msg (by rw [PySem.ofString_length]; decide) (by first | omega | (rw [PySem.ofString_length]; decide)))); intro g₂' e' d' h1' k1' mt' t1' h2' k2' v2' h' tk' lm' F' R' U')
  trivial
example : True := by
  k_with "leaving ref" => (k_here; (with_reducible rename RaisedD _ _ _ _ _ _ _ _ _ _ => rdX); k_dflt (refine' leave_onD ?kK ?kF rdX ?kU ?_ ?kf; (case kf => exact rfl); (case kF => k_asm); (case kK => k_asm); (case kU => k_asm)); intro h' R' U')
  trivial
example : True := by
  k_with "call ref" => (k_here; (with_reducible show wpAny _ _ (call (Value.ref 237) _) _ _ _); k_dflt (refine' use (D := 840) (U := 1740) ?u1 ?u2 ?u3 ?u4 (S_spaces ?kB ?kF ?kX ?kN ?kT ?kk ?kd ?ka ?kb ?kl ?k0 ?k1 ?_); (case u1 => exact rfl); (case u2 => exact rfl); (case u3 => exact Nat.le_of_ble_eq_true rfl); (case u4 => exact Nat.le_of_ble_eq_true rfl); (case kF => k_asm); (case kN => k_asm); (case kB => k_asm); (case kX => k_asm); (case kT => k_asm); (case kk => first | exact rfl | assumption); (case kd => k_asm); (case ka => k_all); (case kb => k_all); (case kl => assumption); (case k0 => omega); (case k1 => omega)); intro he0 he1 t0' t2' h' tk' F' N')
  trivial
example : True := by
  k_with "call ref" => (k_here; (with_reducible show wpAny _ _ (call (Value.ref 216) _) _ _ _); k_dflt (refine' use (D := 820) (U := 1720) ?u1 ?u2 ?u3 ?u4 (S_expect ?kB ?kF ?kX ?kN ?kT ?kk ?kd ?ka ?kb ?kl ?kw ?k0 ?k1 ?_ ?_); (case u1 => exact rfl); (case u2 => exact rfl); (case u3 => exact Nat.le_of_ble_eq_true rfl); (case u4 => exact Nat.le_of_ble_eq_true rfl); (case kF => k_asm); (case kN => k_asm); (case kB => k_asm); (case kX => k_asm); (case kT => k_asm); (case kk => first | exact rfl | assumption); (case kd => k_asm); (case ka => k_all); (case kb => k_all); (case kl => assumption); (case kw => first | omega | (rw [PySem.ofString_length]; decide)); (case k0 => omega); (case k1 => omega)); intro hc' hd' t2' h' tk' F' N'; rotate_left; intro hc' g₂ e d i1 j1 mt u1 i2 j2 v2 h' tk' hmt F' R' U'; rotate_right)
  trivial
example : True := by
  k_with "call ref" => (k_here; (with_reducible show wpAny _ _ (call (Value.ref 244) _) _ _ _); k_dflt (refine' use (D := 800) (U := 1700) ?u1 ?u2 ?u3 ?u4 (S_need ?kB ?kF ?kX ?kN ?kT ?kk ?kd ?ka ?kb ?kl ?k0 ?k1 ?_ ?_); (case u1 => exact rfl); (case u2 => exact rfl); (case u3 => exact Nat.le_of_ble_eq_true rfl); (case u4 => exact Nat.le_of_ble_eq_true rfl); (case kF => k_asm); (case kN => k_asm); (case kB => k_asm); (case kX => k_asm); (case kT => k_asm); (case kk => first | exact rfl | assumption); (case kd => k_asm); (case ka => k_all); (case kb => k_all); (case kl => assumption); (case k0 => omega); (case k1 => omega)); intro hc' he0 he1 t2' h' tk' F' N'; rotate_left; intro hc' g₂ e d i1 j1 mt u1 i2 j2 v2 h' tk' hmt F' R' U'; rotate_right)
  trivial
example : True := by
  k_with "call ref" => (k_here; (with_reducible show wpAny _ _ (call (Value.ref 223) _) _ _ _); k_dflt (refine' use (D := 800) (U := 1700) ?u1 ?u2 ?u3 ?u4 (S_until ?kB ?kF ?kX ?kN ?kT ?kk ?kd ?ka ?kb ?kl ?k0 ?k1 ?kw ?_ ?_); (case u1 => exact rfl); (case u2 => exact rfl); (case u3 => exact Nat.le_of_ble_eq_true rfl); (case u4 => exact Nat.le_of_ble_eq_true rfl); (case kF => k_asm); (case kN => k_asm); (case kB => k_asm); (case kX => k_asm); (case kT => k_asm); (case kk => first | exact rfl | assumption); (case kd => k_asm); (case ka => k_all); (case kb => k_all); (case kl => assumption); (case kw => first | omega | (rw [q_len (by first | exact .inl (by assumption) | exact .inr (by assumption))]; decide) | (rw [PySem.ofString_length]; decide)); (case k0 => omega); (case k1 => first | omega | exact q_lt (by assumption) (q_len (by first | exact .inl (by assumption) | exact .inr (by assumption))))); intro hc' hd' hl' t0' t2' h' tk' F' N'; rotate_left; intro hc' g₂ e d i1 j1 mt u1 i2 j2 v2 h' tk' hmt F' R' U'; rotate_right)
  trivial
section
variable {prog : Program} {w : World} {p : Program} {loose : List Str} {mean : ExcName → Option Value} {mg mb : Str → Option Value} {A₀ : Around} {base h₀ : Heap} {outer : List Env} {cn : Str} {cs : Scope} {ca L : Addr} {ccd : Value} {cl : List (Str × Addr)} {m : Str → Option Value} {rest : Led} {s : Shared} {Q E : Value → Shared → Prop}
variable {x dx : Addr} {T : Str} {k : Int} {h1 h2 : Int} {k1 t1 k2 t2 : Tok}
set_option maxRecDepth 100000 in
set_option maxHeartbeats 4000000 in
theorem S_quoted
    (B : Below A₀ base outer h₀) (F : Fr h₀ L s.heap m) (X : (hd.heap_1_39 w.params).In h₀) (N : News h₀ L s.heap ((x, instObj 268 dx) :: (dx, curD T k h1 k1 t1 h2 k2 t2) :: rest)) (TT : Top p loose mean mg mb h₀) (hk : cs.kind = .function)
    (hxd : @LT.lt Nat _ dx x) (hdx : ∀ p ∈ rest, p.1 ≠ dx) (hx : ∀ p ∈ rest, p.1 ≠ x) (hT : T.length ≤ 10000) (hk0 : 0 ≤ k) (hk1 : k ≤ T.length)
    (r1 : quotes T k = true → (quoteAt T k).length = 1 → 0 ≤ Txt.find3 T (quoteAt T k) (k + 1) → Txt.find3 T (quoteAt T k) (k + 1) + ((quoteAt T k).length : Int) ≤ T.length → (quotedIn T k).length ≤ T.length →
      ∀ a t0 t5 t2' h' tk', Fr h₀ L h' m → News h₀ L h' ((a, tupObj [.str (quotedIn T k) t0, .int (k + 1) t5]) :: (x, instObj 268 dx) :: (dx, curD T (Txt.find3 T (quoteAt T k) (k + 1) + ((quoteAt T k).length : Int)) h1 k1 t1 h2 k2 t2') :: rest) →
      @LT.lt Nat _ x a → @LT.lt Nat _ dx a → AllLt a rest → Q (.ref a) { s with heap := h', toks := tk' })
    (rz : quotes T k = false → Faults base h₀ L m (envX cn cs L ca ccd cl) outer rest E s) :
    wpAny (model prog w) (topAt 780 1680 none (envX cn cs L ca ccd cl) outer) (call (.ref 258) [.ref x]) Q E s := by
  refine wpAny_call ?_
  k_dflt (refine' code_def ?k1 ?k2 ?k3 ?k4 ?k5 ?kA ?kF ?kK ?k6 ?k7 ?k8 ?k9 ?kB ?_ ?c2 ?c3 ?c4 ?c5; (case kA => exact rfl); (case kF => exact rfl); (case kK => first | exact rfl | assumption); (case k2 => k_asm); (case k1 => k_asm); (case k3 => k_asm); (case k4 => k_asm); (case k5 => k_asm); (case k6 => k_is); (case k7 => k_is); (case k8 => k_room); (case k9 => first | exact BindsTo.of_eq rfl | exact binds_K (by k_in) rfl (by k_is) rfl rfl rfl); (case c5 => decide); (case kB => exact locs rfl); (case c2 => exact rfl); (case c3 => exact rfl); (case c4 => exact rfl); k_whole; intro g' L' h' FG' F' N' B' X' T'; (try dsimp only); (try k_lift B'); (try k_fold))
  k_steps
  · exact rz (quotes_no1 (by assumption) (by assumption)) _ _ _ _ _ _ _ _ _ _ _ _ (by assumption) (by k_asm) (by assumption) (by assumption)
  · rename _ ∧ _ => l1; exact r1 (quotes_yes (.inr (by assumption)) (by assumption)) (q_len (.inr (by assumption))) (by assumption) (by assumption) (by assumption) _ _ _ _ _ _ (by k_asm) (by k_asm) l1.1 l1.2.1 l1.2.2
  · exact rz (quotes_no2 (by assumption)) _ _ _ _ _ _ _ _ _ _ _ _ (by assumption) (by k_asm) (by assumption) (by assumption)
  · rename _ ∧ _ => l1; exact r1 (quotes_yes (.inl (by assumption)) (by assumption)) (q_len (.inl (by assumption))) (by assumption) (by assumption) (by assumption) _ _ _ _ _ _ (by k_asm) (by k_asm) l1.1 l1.2.1 l1.2.2
  · exact rz (quotes_no2 (by assumption)) _ _ _ _ _ _ _ _ _ _ _ _ (by assumption) (by k_asm) (by assumption) (by assumption)
end


-- C6
example : True := by
  k_with_none
  trivial
example : True := by
  k_with "subscriptTail Name Constant ref int" => (k_here; with_unfolding_all refine' s_item ?k1 ?k2 ?k3 ?k4 ?k5 ?_ ?k6; (case k1 => k_asm); (case k2 => k_mem); (case k3 => decide); (case k4 => decide); (case k5 => rfl); (case k6 => with_unfolding_all rfl); k_whole)
  trivial
example : True := by
  k_with "binaryOp Mod int int" => (refine s_mod (by omega) ?_)
  trivial
example : True := by
  k_with "binaryOp FloorDiv int int" => (refine s_div (by omega) (by omega) ?_)
  trivial
example : True := by
  k_with "binaryOp Mult int int" => (refine s_mul (by omega) (by omega) ?_)
  trivial
example : True := by
  k_with "getMethod type:Exception" => (k_here; refine' method_type ?F ?X ?m (by decide +kernel) ?e ?h ?_; (case F => k_asm); (case X => k_asm); (case m => exact meta_Exception); (case e => k_dflt k_is); (case h => k_handed))
  trivial
example : True := by
  k_with "call builtin:Exception.__init__" => (k_here; k_dflt (refine' e_init ?kF ?kN ?kn ?kX ?kK ?kr ?_; (case kF => k_asm); (case kN => k_asm); (case kn => k_all); (case kX => k_in); (case kK => k_is); (case kr => simp [sizeLine_eq])); intro t' h' F' N' l1 l2; (k_lt2 l2); (replace l1 := allLt_of l1))
  trivial
example : True := by
  k_with "setAttr ref" => (k_here; k_dflt (refine' e_set_new ?kF ?kN ?kn ?kX ?k1 ?k2 ?k3 ?k4 ?kc ?kh ?km ?kr ?kt ?ks ?_; (case kF => k_asm); (case kN => first | k_asm | exact news_off (by k_asm)); (case kn => k_all); (case kX => k_in); (case k1 => rfl); (case k2 => rfl); (case k3 => rfl); (case k4 => rfl); (case kc => k_is); (case kh => rfl); (case km => k_is); (case kr => first | exact refuse136 _ | exact refuse148 _); (case kt => k_is); (case ks => k_is)); intro d' hs' ks' h' F' N' l3 l4; (k_lt2 l4); (replace l3 := allLt_of l3); (try (simp only [AllLt] at l3)); (try (obtain ⟨l5, l3⟩ := l3)); (try (obtain ⟨l6, l3⟩ := l3)))
  trivial
example : True := by
  k_with "setAttr ref" => (k_here; k_dflt (refine' e_set_old ?kF ?kN ?kg ?kn ?kX ?k1 ?k2 ?k3 ?kc ?kh ?km ?kr ?kt ?ks ?k5 ?ke ?k6 ?_; (case kF => k_asm); (case kN => exact news_swap (by k_asm)); (case kg => exact News.get (by k_asm) (.head _)); (case kn => k_all); (case kX => k_in); (case k1 => rfl); (case k2 => rfl); (case k3 => rfl); (case kc => k_is); (case kh => rfl); (case km => k_is); (case kr => first | exact refuse136 _ | exact refuse148 _); (case kt => k_is); (case ks => k_is); (case k5 => (rw [aRefKeyMayBeTheName_at, Bool.and_eq_false_iff]; right; simp [DictEntry.refKey])); (case ke => k_put); (case k6 => simp)); intro h' F' N')
  trivial
example : True := by
  k_with "exec Raise some none" => (k_here; k_dflt (refine' e_exec0 (C := 136) ?kh ?kX ?kK ?_; (case kh => rfl); (case kX => k_asm); (case kK => k_is)))
  trivial
example : True := by
  k_with "call ref" => (k_here; (with_reducible show wpAny _ _ (call (Value.ref 194) _) _ _ _); k_dflt (refine' use (D := 860) (U := 1760) ?u1 ?u2 ?u3 ?u4 (S_fault ?kB ?kF ?kX ?kN ?kT ?kk ?km ?_); (case u1 => exact rfl); (case u2 => exact rfl); (case u3 => exact Nat.le_of_ble_eq_true rfl); (case u4 => exact Nat.le_of_ble_eq_true rfl); (case kF => k_asm); (case kN => k_asm); (case kB => k_asm); (case kX => k_asm); (case kT => k_asm); (case kk => first | exact rfl | assumption); (case km => first | assumption | omega | (rw [PySem.ofString_length]; decide) | exact s_msg (by rw [PySem.ofString_length]; decide) (by first | omega | (rw [PySem.ofString_length]; decide)))); intro g₂' e' d' h1' k1' mt' t1' h2' k2' v2' h' tk' lm' F' R' U')
  trivial
example : True := by
  k_with "leaving ref" => (k_here; (with_reducible rename RaisedD _ _ _ _ _ _ _ _ _ _ => rdX); k_dflt (refine' leave_onD ?kK ?kF rdX ?kU ?_ ?kf; (case kf => exact rfl); (case kF => k_asm); (case kK => k_asm); (case kU => k_asm)); intro h' R' U')
  trivial
example : True := by
  k_with "call ref" => (k_here; (with_reducible show wpAny _ _ (call (Value.ref 237) _) _ _ _); k_dflt (refine' use (D := 840) (U := 1740) ?u1 ?u2 ?u3 ?u4 (S_spaces ?kB ?kF ?kX ?kN ?kT ?kk ?kd ?ka ?kb ?kl ?k0 ?k1 ?_); (case u1 => exact rfl); (case u2 => exact rfl); (case u3 => exact Nat.le_of_ble_eq_true rfl); (case u4 => exact Nat.le_of_ble_eq_true rfl); (case kF => k_asm); (case kN => k_asm); (case kB => k_asm); (case kX => k_asm); (case kT => k_asm); (case kk => first | exact rfl | assumption); (case kd => k_asm); (case ka => k_all); (case kb => k_all); (case kl => assumption); (case k0 => omega); (case k1 => omega)); intro he0 he1 t0' t2' h' tk' F' N')
  trivial
example : True := by
  k_with "call ref" => (k_here; (with_reducible show wpAny _ _ (call (Value.ref 216) _) _ _ _); k_dflt (refine' use (D := 820) (U := 1720) ?u1 ?u2 ?u3 ?u4 (S_expect ?kB ?kF ?kX ?kN ?kT ?kk ?kd ?ka ?kb ?kl ?kw ?k0 ?k1 ?_ ?_); (case u1 => exact rfl); (case u2 => exact rfl); (case u3 => exact Nat.le_of_ble_eq_true rfl); (case u4 => exact Nat.le_of_ble_eq_true rfl); (case kF => k_asm); (case kN => k_asm); (case kB => k_asm); (case kX => k_asm); (case kT => k_asm); (case kk => first | exact rfl | assumption); (case kd => k_asm); (case ka => k_all); (case kb => k_all); (case kl => assumption); (case kw => first | omega | (rw [PySem.ofString_length]; decide)); (case k0 => omega); (case k1 => omega)); intro hc' hd' t2' h' tk' F' N'; rotate_left; intro hc' g₂ e d i1 j1 mt u1 i2 j2 v2 h' tk' hmt F' R' U'; rotate_right)
  trivial
example : True := by
  k_with "call ref" => (k_here; (with_reducible show wpAny _ _ (call (Value.ref 244) _) _ _ _); k_dflt (refine' use (D := 800) (U := 1700) ?u1 ?u2 ?u3 ?u4 (S_need ?kB ?kF ?kX ?kN ?kT ?kk ?kd ?ka ?kb ?kl ?k0 ?k1 ?_ ?_); (case u1 => exact rfl); (case u2 => exact rfl); (case u3 => exact Nat.le_of_ble_eq_true rfl); (case u4 => exact Nat.le_of_ble_eq_true rfl); (case kF => k_asm); (case kN => k_asm); (case kB => k_asm); (case kX => k_asm); (case kT => k_asm); (case kk => first | exact rfl | assumption); (case kd => k_asm); (case ka => k_all); (case kb => k_all); (case kl => assumption); (case k0 => omega); (case k1 => omega)); intro hc' he0 he1 t2' h' tk' F' N'; rotate_left; intro hc' g₂ e d i1 j1 mt u1 i2 j2 v2 h' tk' hmt F' R' U'; rotate_right)
  trivial
example : True := by
  k_with "call ref" => (k_here; (with_reducible show wpAny _ _ (call (Value.ref 223) _) _ _ _); k_dflt (refine' use (D := 800) (U := 1700) ?u1 ?u2 ?u3 ?u4 (S_until ?kB ?kF ?kX ?kN ?kT ?kk ?kd ?ka ?kb ?kl ?k0 ?k1 ?kw ?_ ?_); (case u1 => exact rfl); (case u2 => exact rfl); (case u3 => exact Nat.le_of_ble_eq_true rfl); (case u4 => exact Nat.le_of_ble_eq_true rfl); (case kF => k_asm); (case kN => k_asm); (case kB => k_asm); (case kX => k_asm); (case kT => k_asm); (case kk => first | exact rfl | assumption); (case kd => k_asm); (case ka => k_all); (case kb => k_all); (case kl => assumption); (case kw => first | omega | (rw [q_len (by first | exact .inl (by assumption) | exact .inr (by assumption))]; decide) | (rw [PySem.ofString_length]; decide)); (case k0 => omega); (case k1 => first | omega | exact q_lt (by assumption) (q_len (by first | exact .inl (by assumption) | exact .inr (by assumption))))); intro hc' hd' hl' t0' t2' h' tk' F' N'; rotate_left; intro hc' g₂ e d i1 j1 mt u1 i2 j2 v2 h' tk' hmt F' R' U'; rotate_right)
  trivial
section
variable {prog : Program} {w : World} {p : Program} {loose : List Str} {mean : ExcName → Option Value} {mg mb : Str → Option Value} {A₀ : Around} {base h₀ : Heap} {outer : List Env} {cn : Str} {cs : Scope} {ca L : Addr} {ccd : Value} {cl : List (Str × Addr)} {m : Str → Option Value} {rest : Led} {s : Shared} {Q E : Value → Shared → Prop}
variable {x dx : Addr} {T : Str} {k : Int} {h1 h2 : Int} {k1 t1 k2 t2 : Tok}
set_option maxRecDepth 100000 in
set_option maxHeartbeats 4000000 in
theorem S_equals
    (B : Below A₀ base outer h₀) (F : Fr h₀ L s.heap m) (X : (hd.heap_1_39 w.params).In h₀) (N : News h₀ L s.heap ((x, instObj 268 dx) :: (dx, curD T k h1 k1 t1 h2 k2 t2) :: rest)) (TT : Top p loose mean mg mb h₀) (hk : cs.kind = .function)
    (hxd : @LT.lt Nat _ dx x) (hdx : ∀ p ∈ rest, p.1 ≠ dx) (hx : ∀ p ∈ rest, p.1 ≠ x) (hT : T.length ≤ 10000) (hk0 : 0 ≤ k) (hk1 : k ≤ T.length)
    (r1 : ∀ b, eqEnd T k = some b → 0 ≤ b → b ≤ T.length → ∀ t2' h' tk', Fr h₀ L h' m → News h₀ L h' ((x, instObj 268 dx) :: (dx, curD T b h1 k1 t1 h2 k2 t2') :: rest) → Q .none { s with heap := h', toks := tk' })
    (rz : eqEnd T k = none → Faults base h₀ L m (envX cn cs L ca ccd cl) outer rest E s) :
    wpAny (model prog w) (topAt 800 1700 none (envX cn cs L ca ccd cl) outer) (call (.ref 286) [.ref x]) Q E s := by
  refine wpAny_call ?_
  k_dflt (refine' code_def ?k1 ?k2 ?k3 ?k4 ?k5 ?kA ?kF ?kK ?k6 ?k7 ?k8 ?k9 ?kB ?_ ?c2 ?c3 ?c4 ?c5; (case kA => exact rfl); (case kF => exact rfl); (case kK => first | exact rfl | assumption); (case k2 => k_asm); (case k1 => k_asm); (case k3 => k_asm); (case k4 => k_asm); (case k5 => k_asm); (case k6 => k_is); (case k7 => k_is); (case k8 => k_room); (case k9 => first | exact BindsTo.of_eq rfl | exact binds_K (by k_in) rfl (by k_is) rfl rfl rfl); (case c5 => decide); (case kB => exact locs rfl); (case c2 => exact rfl); (case c3 => exact rfl); (case c4 => exact rfl); k_whole; intro g' L' h' FG' F' N' B' X' T'; (try dsimp only); (try k_lift B'); (try k_fold))
  k_steps
  · exact r1 _ (eqEnd_yes (by assumption)) (by assumption) (by assumption) _ _ _ (by k_asm) (by k_asm)
  · exact rz (eqEnd_no (by assumption)) _ _ _ _ _ _ _ _ _ _ _ _ (by assumption) (by k_asm) (by assumption) (by assumption)
example : True := by
  k_with "call ref" => (k_here; (with_reducible show wpAny _ _ (call (Value.ref 286) _) _ _ _); k_dflt (refine' use (D := 800) (U := 1700) ?u1 ?u2 ?u3 ?u4 (S_equals ?kB ?kF ?kX ?kN ?kT ?kk ?kd ?ka ?kb ?kl ?k0 ?k1 ?_ ?_); (case u1 => exact rfl); (case u2 => exact rfl); (case u3 => exact Nat.le_of_ble_eq_true rfl); (case u4 => exact Nat.le_of_ble_eq_true rfl); (case kF => k_asm); (case kN => k_asm); (case kB => k_asm); (case kX => k_asm); (case kT => k_asm); (case kk => first | exact rfl | assumption); (case kd => k_asm); (case ka => k_all); (case kb => k_all); (case kl => assumption); (case k0 => omega); (case k1 => omega)); intro be he' hc' hd' t2' h' tk' F' N'; rotate_left; intro he' g₂ e d i1 j1 mt u1 i2 j2 v2 h' tk' hmt F' R' U'; rotate_right)
  trivial
example : True := by
  k_with "call ref" => (k_here; (with_reducible show wpAny _ _ (call (Value.ref 258) _) _ _ _); k_dflt (refine' use (D := 780) (U := 1680) ?u1 ?u2 ?u3 ?u4 (S_quoted ?kB ?kF ?kX ?kN ?kT ?kk ?kd ?ka ?kb ?kl ?k0 ?k1 ?_ ?_); (case u1 => exact rfl); (case u2 => exact rfl); (case u3 => exact Nat.le_of_ble_eq_true rfl); (case u4 => exact Nat.le_of_ble_eq_true rfl); (case kF => k_asm); (case kN => k_asm); (case kB => k_asm); (case kX => k_asm); (case kT => k_asm); (case kk => first | exact rfl | assumption); (case kd => k_asm); (case ka => k_all); (case kb => k_all); (case kl => assumption); (case k0 => omega); (case k1 => omega)); intro hq' hql hc' hd' he' a' t0' t5' t2' h' tk' F' N' l1 l2 l3; rotate_left; intro he' g₂ e d i1 j1 mt u1 i2 j2 v2 h' tk' hmt F' R' U'; rotate_right)
  trivial
set_option maxRecDepth 100000 in
set_option maxHeartbeats 4000000 in
theorem S_word {W : Str} {tW : Tok}
    (B : Below A₀ base outer h₀) (F : Fr h₀ L s.heap m) (X : (hd.heap_1_39 w.params).In h₀) (N : News h₀ L s.heap ((x, instObj 268 dx) :: (dx, curD T k h1 k1 t1 h2 k2 t2) :: rest)) (TT : Top p loose mean mg mb h₀) (hk : cs.kind = .function)
    (hxd : @LT.lt Nat _ dx x) (hdx : ∀ p ∈ rest, p.1 ≠ dx) (hx : ∀ p ∈ rest, p.1 ≠ x) (hT : T.length ≤ 10000) (hk0 : 0 ≤ k) (hk1 : k ≤ T.length)
    (hW : W.length ≤ 40)
    (r1 : ∀ v b, wordAt T W k = some (v, b) → 0 ≤ b → b ≤ T.length → v.length ≤ T.length →
      ∀ a t0 z5 t5 t2' h' tk', Fr h₀ L h' m → News h₀ L h' ((a, tupObj [.str v t0, .int z5 t5]) :: (x, instObj 268 dx) :: (dx, curD T b h1 k1 t1 h2 k2 t2') :: rest) →
      @LT.lt Nat _ x a → @LT.lt Nat _ dx a → AllLt a rest → Q (.ref a) { s with heap := h', toks := tk' })
    (rz : wordAt T W k = none → Faults base h₀ L m (envX cn cs L ca ccd cl) outer rest E s) :
    wpAny (model prog w) (topAt 760 1660 none (envX cn cs L ca ccd cl) outer) (call (.ref 293) [.ref x, .str W tW]) Q E s := by
  refine wpAny_call ?_
  k_dflt (refine' code_def ?k1 ?k2 ?k3 ?k4 ?k5 ?kA ?kF ?kK ?k6 ?k7 ?k8 ?k9 ?kB ?_ ?c2 ?c3 ?c4 ?c5; (case kA => exact rfl); (case kF => exact rfl); (case kK => first | exact rfl | assumption); (case k2 => k_asm); (case k1 => k_asm); (case k3 => k_asm); (case k4 => k_asm); (case k5 => k_asm); (case k6 => k_is); (case k7 => k_is); (case k8 => k_room); (case k9 => first | exact BindsTo.of_eq rfl | exact binds_K (by k_in) rfl (by k_is) rfl rfl rfl); (case c5 => decide); (case kB => exact locs rfl); (case c2 => exact rfl); (case c3 => exact rfl); (case c4 => exact rfl); k_whole; intro g' L' h' FG' F' N' B' X' T'; (try dsimp only); (try k_lift B'); (try k_fold))
  k_steps
  · exact r1 _ _ (wordAt_yes (by assumption) (by assumption) (by assumption)) (by omega) (by assumption) (by assumption) _ _ _ _ _ _ _ (by k_asm) (by k_asm) (by assumption) (by assumption) (by assumption)
  · exact rz (wordAt_no3 (by assumption) (by assumption)) _ _ _ _ _ _ _ _ _ _ _ _ (by assumption) (by k_asm) (by assumption) (by assumption)
  · exact rz (wordAt_no2 (by assumption)) _ _ _ _ _ _ _ _ _ _ _ _ (by assumption) (by k_asm) (by assumption) (by assumption)
  · exact rz (wordAt_no1 (by assumption)) _ _ _ _ _ _ _ _ _ _ _ _ (by assumption) (by k_asm) (by assumption) (by assumption)
end


-- C7
example : True := by
  k_with_none
  trivial
example : True := by
  k_with "subscriptTail Name Constant ref int" => (k_here; with_unfolding_all refine' s_item ?k1 ?k2 ?k3 ?k4 ?k5 ?_ ?k6; (case k1 => k_asm); (case k2 => k_mem); (case k3 => decide); (case k4 => decide); (case k5 => rfl); (case k6 => with_unfolding_all rfl); k_whole)
  trivial
example : True := by
  k_with "binaryOp Mod int int" => (refine s_mod (by omega) ?_)
  trivial
example : True := by
  k_with "binaryOp FloorDiv int int" => (refine s_div (by omega) (by omega) ?_)
  trivial
example : True := by
  k_with "binaryOp Mult int int" => (refine s_mul (by omega) (by omega) ?_)
  trivial
example : True := by
  k_with "getMethod type:Exception" => (k_here; refine' method_type ?F ?X ?m (by decide +kernel) ?e ?h ?_; (case F => k_asm); (case X => k_asm); (case m => exact meta_Exception); (case e => k_dflt k_is); (case h => k_handed))
  trivial
example : True := by
  k_with "call builtin:Exception.__init__" => (k_here; k_dflt (refine' e_init ?kF ?kN ?kn ?kX ?kK ?kr ?_; (case kF => k_asm); (case kN => k_asm); (case kn => k_all); (case kX => k_in); (case kK => k_is); (case kr => simp [sizeLine_eq])); intro t' h' F' N' l1 l2; (k_lt2 l2); (replace l1 := allLt_of l1))
  trivial
example : True := by
  k_with "setAttr ref" => (k_here; k_dflt (refine' e_set_new ?kF ?kN ?kn ?kX ?k1 ?k2 ?k3 ?k4 ?kc ?kh ?km ?kr ?kt ?ks ?_; (case kF => k_asm); (case kN => first | k_asm | exact news_off (by k_asm)); (case kn => k_all); (case kX => k_in); (case k1 => rfl); (case k2 => rfl); (case k3 => rfl); (case k4 => rfl); (case kc => k_is); (case kh => rfl); (case km => k_is); (case kr => first | exact refuse136 _ | exact refuse148 _); (case kt => k_is); (case ks => k_is)); intro d' hs' ks' h' F' N' l3 l4; (k_lt2 l4); (replace l3 := allLt_of l3); (try (simp only [AllLt] at l3)); (try (obtain ⟨l5, l3⟩ := l3)); (try (obtain ⟨l6, l3⟩ := l3)))
  trivial
example : True := by
  k_with "setAttr ref" => (k_here; k_dflt (refine' e_set_old ?kF ?kN ?kg ?kn ?kX ?k1 ?k2 ?k3 ?kc ?kh ?km ?kr ?kt ?ks ?k5 ?ke ?k6 ?_; (case kF => k_asm); (case kN => exact news_swap (by k_asm)); (case kg => exact News.get (by k_asm) (.head _)); (case kn => k_all); (case kX => k_in); (case k1 => rfl); (case k2 => rfl); (case k3 => rfl); (case kc => k_is); (case kh => rfl); (case km => k_is); (case kr => first | exact refuse136 _ | exact refuse148 _); (case kt => k_is); (case ks => k_is); (case k5 => (rw [aRefKeyMayBeTheName_at, Bool.and_eq_false_iff]; right; simp [DictEntry.refKey])); (case ke => k_put); (case k6 => simp)); intro h' F' N')
  trivial
example : True := by
  k_with "exec Raise some none" => (k_here; k_dflt (refine' e_exec0 (C := 136) ?kh ?kX ?kK ?_; (case kh => rfl); (case kX => k_asm); (case kK => k_is)))
  trivial
example : True := by
  k_with "exec While BoolOp" => (k_here; rename Fr _ _ _ _ => lF'; rename News _ _ _ _ => lN'; k_dflt (refine' still_while (σ := Int × Tok) (fun c => (x, instObj 268 dx) :: (dx, curD T c.1 h1 k1 t1 h2 k2 c.2) :: rest) (fun c => 0 ≤ c.1 ∧ c.1 ≤ T.length ∧ spEnd T c.1 = spEnd T k) (fun c => (T.length - c.1).toNat) (k, t2) lF' ?kn ⟨hk0, hk1, rfl⟩ ?_); (case kn => k_asm); clear lF' lN'; rintro ⟨c, tc⟩ gh gt ⟨hc0, hc1, hcs⟩ lF' lN'; dsimp only at hc0 hc1 hcs lN')
  trivial
example : True := by
  k_with "subscriptTail" => (k_here; (with_reducible show wpAny _ _ (subscriptTail _ _ (Value.str _ _) (Value.int _ _)) _ _ _); refine item_str (fitsSsize_of (N := 9223372036854775808) (by omega) (by omega) (Int.le_refl _)) (by omega) (by omega) ?_ (by with_unfolding_all rfl) (by intro _; with_unfolding_all rfl); intro hi1)
  trivial
example : True := by
  k_with "SignQ" => first | (refine sign_next (by assumption) (by assumption) (by intro y hy; exact if_neg hy) (each_snoc (by assumption) ?_)) | (dsimp only [SignQ])
  trivial
example : True := by
  k_with "exec For" => (k_here; (rename Fr _ _ _ _ => lF'); (with_unfolding_all refine' For_invVF lF' ?k1 ?k2 ?_; (case k1 => exact rfl); (case k2 => exact rfl); k_whole))
  trivial
section
variable {prog : Program} {w : World} {p : Program} {loose : List Str} {mean : ExcName → Option Value} {mg mb : Str → Option Value} {A₀ : Around} {base h₀ : Heap} {outer : List Env} {cn : Str} {cs : Scope} {ca L : Addr} {ccd : Value} {cl : List (Str × Addr)} {m : Str → Option Value} {rest : Led} {s : Shared} {Q E : Value → Shared → Prop}
example : True := by
  k_with "pyIter str" => (k_here; rename Fr _ _ _ _ => lF'; rename News _ _ _ _ => lN'; with_unfolding_all refine' text_each (fun pre => ∀ c ∈ pre, isFig c = true) ?khh lF' lN' (List.forall_mem_nil _) ?_ ?_; (case khh => rfl); clear lF' lN'; intro pre post n t gh gt own hEq hP gF gN; rotate_left; intro o gh gt hP gF gN; rotate_right; all_goals (try k_fold))
  trivial
set_option maxRecDepth 100000 in
set_option maxHeartbeats 4000000 in
theorem S_version {V : Str} {tV : Tok}
    (B : Below A₀ base outer h₀) (F : Fr h₀ L s.heap m) (X : (hd.heap_1_39 w.params).In h₀) (N : News h₀ L s.heap rest) (TT : Top p loose mean mg mb h₀) (hk : cs.kind = .function)
    (hV : V.length ≤ 10000)
    (r1 : ∀ b h' tk', isVersion V = b → Fr h₀ L h' m → News h₀ L h' rest → Q (.bool b) { s with heap := h', toks := tk' }) :
    wpAny (model prog w) (topAt 860 1760 none (envX cn cs L ca ccd cl) outer) (call (.ref 307) [.str V tV]) Q E s := by
  refine wpAny_call ?_
  k_dflt (refine' code_def ?k1 ?k2 ?k3 ?k4 ?k5 ?kA ?kF ?kK ?k6 ?k7 ?k8 ?k9 ?kB ?_ ?c2 ?c3 ?c4 ?c5; (case kA => exact rfl); (case kF => exact rfl); (case kK => first | exact rfl | assumption); (case k2 => k_asm); (case k1 => k_asm); (case k3 => k_asm); (case k4 => k_asm); (case k5 => k_asm); (case k6 => k_is); (case k7 => k_is); (case k8 => k_room); (case k9 => first | exact BindsTo.of_eq rfl | exact binds_K (by k_in) rfl (by k_is) rfl rfl rfl); (case c5 => decide); (case kB => exact locs rfl); (case c2 => exact rfl); (case c3 => exact rfl); (case c4 => exact rfl); k_whole; intro g' L' h' FG' F' N' B' X' T'; (try dsimp only); (try k_lift B'); (try k_fold))
  k_steps
  · exact r1 _ _ _ (ver_1 (by assumption)) (by k_asm) (by k_asm)
  · exact r1 _ _ _ (ver_2 (by assumption)) (by k_asm) (by k_asm)
  · exact r1 _ _ _ (ver_3 (all_no (by assumption) (fig_no (by assumption)))) (by k_asm) (fun p hp => (by assumption : News _ _ _ (_ ++ _)) p (List.mem_append_left _ hp))
  · exact fig_yes (by assumption)
  · exact r1 _ _ _ (ver_4 (by assumption) (by assumption) (all_yes (by assumption))) (by k_asm) (by k_asm)
example : True := by
  k_with "pyIter str" => (k_here; rename Fr _ _ _ _ => lF'; rename News _ _ _ _ => lN'; with_unfolding_all refine' text_each (fun pre => ∀ c ∈ pre, encSign c = true) ?khh lF' lN' (List.forall_mem_nil _) ?_ ?_; (case khh => rfl); clear lF' lN'; intro pre post n t gh gt own hEq hP gF gN; rotate_left; intro o gh gt hP gF gN; rotate_right; all_goals (try k_fold))
  trivial
set_option maxRecDepth 100000 in
set_option maxHeartbeats 4000000 in
theorem S_enc {V : Str} {tV : Tok}
    (B : Below A₀ base outer h₀) (F : Fr h₀ L s.heap m) (X : (hd.heap_1_39 w.params).In h₀) (N : News h₀ L s.heap rest) (TT : Top p loose mean mg mb h₀) (hk : cs.kind = .function)
    (hV : V.length ≤ 10000)
    (r1 : ∀ b h' tk', isEnc V = b → Fr h₀ L h' m → News h₀ L h' rest → Q (.bool b) { s with heap := h', toks := tk' }) :
    wpAny (model prog w) (topAt 860 1760 none (envX cn cs L ca ccd cl) outer) (call (.ref 300) [.str V tV]) Q E s := by
  refine wpAny_call ?_
  k_dflt (refine' code_def ?k1 ?k2 ?k3 ?k4 ?k5 ?kA ?kF ?kK ?k6 ?k7 ?k8 ?k9 ?kB ?_ ?c2 ?c3 ?c4 ?c5; (case kA => exact rfl); (case kF => exact rfl); (case kK => first | exact rfl | assumption); (case k2 => k_asm); (case k1 => k_asm); (case k3 => k_asm); (case k4 => k_asm); (case k5 => k_asm); (case k6 => k_is); (case k7 => k_is); (case k8 => k_room); (case k9 => first | exact BindsTo.of_eq rfl | exact binds_K (by k_in) rfl (by k_is) rfl rfl rfl); (case c5 => decide); (case kB => exact locs rfl); (case c2 => exact rfl); (case c3 => exact rfl); (case c4 => exact rfl); k_whole; intro g' L' h' FG' F' N' B' X' T'; (try dsimp only); (try k_lift B'); (try k_fold))
  k_steps
  · exact r1 _ _ _ (enc_1 (by assumption)) (by k_asm) (by k_asm)
  · exact r1 _ _ _ (enc_2 (by assumption)) (by k_asm) (by k_asm)
  · exact r1 _ _ _ (enc_3 (all_no (by assumption) (enc_n0 (by assumption) (by assumption) (by assumption)))) (by k_asm) (fun p hp => (by assumption : News _ _ _ (_ ++ _)) p (List.mem_append_left _ hp))
  · exact enc_n3 (by assumption)
  · exact enc_n2 (by assumption)
  · exact enc_n1 (by assumption)
  · exact r1 _ _ _ (enc_4 (by assumption) (by assumption) (all_yes (by assumption))) (by k_asm) (by k_asm)
end


-- C8
example : True := by
  k_with_none
  trivial
example : True := by
  k_with "subscriptTail Name Constant ref int" => (k_here; with_unfolding_all refine' s_item ?k1 ?k2 ?k3 ?k4 ?k5 ?_ ?k6; (case k1 => k_asm); (case k2 => k_mem); (case k3 => decide); (case k4 => decide); (case k5 => rfl); (case k6 => with_unfolding_all rfl); k_whole)
  trivial
example : True := by
  k_with "binaryOp Mod int int" => (refine s_mod (by omega) ?_)
  trivial
example : True := by
  k_with "binaryOp FloorDiv int int" => (refine s_div (by omega) (by omega) ?_)
  trivial
example : True := by
  k_with "binaryOp Mult int int" => (refine s_mul (by omega) (by omega) ?_)
  trivial
example : True := by
  k_with "getMethod type:Exception" => (k_here; refine' method_type ?F ?X ?m (by decide +kernel) ?e ?h ?_; (case F => k_asm); (case X => k_asm); (case m => exact meta_Exception); (case e => k_dflt k_is); (case h => k_handed))
  trivial
example : True := by
  k_with "call builtin:Exception.__init__" => (k_here; k_dflt (refine' e_init ?kF ?kN ?kn ?kX ?kK ?kr ?_; (case kF => k_asm); (case kN => k_asm); (case kn => k_all); (case kX => k_in); (case kK => k_is); (case kr => simp [sizeLine_eq])); intro t' h' F' N' l1 l2; (k_lt2 l2); (replace l1 := allLt_of l1))
  trivial
example : True := by
  k_with "setAttr ref" => (k_here; k_dflt (refine' e_set_new ?kF ?kN ?kn ?kX ?k1 ?k2 ?k3 ?k4 ?kc ?kh ?km ?kr ?kt ?ks ?_; (case kF => k_asm); (case kN => first | k_asm | exact news_off (by k_asm)); (case kn => k_all); (case kX => k_in); (case k1 => rfl); (case k2 => rfl); (case k3 => rfl); (case k4 => rfl); (case kc => k_is); (case kh => rfl); (case km => k_is); (case kr => first | exact refuse136 _ | exact refuse148 _); (case kt => k_is); (case ks => k_is)); intro d' hs' ks' h' F' N' l3 l4; (k_lt2 l4); (replace l3 := allLt_of l3); (try (simp only [AllLt] at l3)); (try (obtain ⟨l5, l3⟩ := l3)); (try (obtain ⟨l6, l3⟩ := l3)))
  trivial
example : True := by
  k_with "setAttr ref" => (k_here; k_dflt (refine' e_set_old ?kF ?kN ?kg ?kn ?kX ?k1 ?k2 ?k3 ?kc ?kh ?km ?kr ?kt ?ks ?k5 ?ke ?k6 ?_; (case kF => k_asm); (case kN => exact news_swap (by k_asm)); (case kg => exact News.get (by k_asm) (.head _)); (case kn => k_all); (case kX => k_in); (case k1 => rfl); (case k2 => rfl); (case k3 => rfl); (case kc => k_is); (case kh => rfl); (case km => k_is); (case kr => first | exact refuse136 _ | exact refuse148 _); (case kt => k_is); (case ks => k_is); (case k5 => (rw [aRefKeyMayBeTheName_at, Bool.and_eq_false_iff]; right; simp [DictEntry.refKey])); (case ke => k_put); (case k6 => simp)); intro h' F' N')
  trivial
example : True := by
  k_with "exec Raise some none" => (k_here; k_dflt (refine' e_exec0 (C := 136) ?kh ?kX ?kK ?_; (case kh => rfl); (case kX => k_asm); (case kK => k_is)))
  trivial
example : True := by
  k_with "call ref" => (k_here; (with_reducible show wpAny _ _ (call (Value.ref 194) _) _ _ _); k_dflt (refine' use (D := 860) (U := 1760) ?u1 ?u2 ?u3 ?u4 (S_fault ?kB ?kF ?kX ?kN ?kT ?kk ?km ?_); (case u1 => exact rfl); (case u2 => exact rfl); (case u3 => exact Nat.le_of_ble_eq_true rfl); (case u4 => exact Nat.le_of_ble_eq_true rfl); (case kF => k_asm); (case kN => first | k_asm | exact news_tl (by k_asm)); (case kB => k_asm); (case kX => k_asm); (case kT => k_asm); (case kk => first | exact rfl | assumption); (case km => first | assumption | omega | (rw [PySem.ofString_length]; decide) | exact s_msg (by rw [PySem.ofString_length]; decide) (by first | omega | (rw [PySem.ofString_length]; decide)))); intro g₂' e' d' h1' k1' mt' t1' h2' k2' v2' h' tk' lm' F' R' U')
  trivial
example : True := by
  k_with "leaving ref" => (k_here; (with_reducible rename RaisedD _ _ _ _ _ _ _ _ _ _ => rdX); k_dflt (refine' leave_onD ?kK ?kF rdX ?kU ?_ ?kf; (case kf => exact rfl); (case kF => k_asm); (case kK => k_asm); (case kU => k_asm)); intro h' R' U')
  trivial
example : True := by
  k_with "call ref" => (k_here; (with_reducible show wpAny _ _ (call (Value.ref 237) _) _ _ _); k_dflt (refine' use (D := 840) (U := 1740) ?u1 ?u2 ?u3 ?u4 (S_spaces ?kB ?kF ?kX ?kN ?kT ?kk ?kd ?ka ?kb ?kl ?k0 ?k1 ?_); (case u1 => exact rfl); (case u2 => exact rfl); (case u3 => exact Nat.le_of_ble_eq_true rfl); (case u4 => exact Nat.le_of_ble_eq_true rfl); (case kF => k_asm); (case kN => first | k_asm | exact news_tl (by k_asm)); (case kB => k_asm); (case kX => k_asm); (case kT => k_asm); (case kk => first | exact rfl | assumption); (case kd => k_asm); (case ka => k_all); (case kb => k_all); (case kl => assumption); (case k0 => omega); (case k1 => omega)); intro he0 he1 t0' t2' h' tk' F' N')
  trivial
example : True := by
  k_with "call ref" => (k_here; (with_reducible show wpAny _ _ (call (Value.ref 216) _) _ _ _); k_dflt (refine' use (D := 820) (U := 1720) ?u1 ?u2 ?u3 ?u4 (S_expect ?kB ?kF ?kX ?kN ?kT ?kk ?kd ?ka ?kb ?kl ?kw ?k0 ?k1 ?_ ?_); (case u1 => exact rfl); (case u2 => exact rfl); (case u3 => exact Nat.le_of_ble_eq_true rfl); (case u4 => exact Nat.le_of_ble_eq_true rfl); (case kF => k_asm); (case kN => first | k_asm | exact news_tl (by k_asm)); (case kB => k_asm); (case kX => k_asm); (case kT => k_asm); (case kk => first | exact rfl | assumption); (case kd => k_asm); (case ka => k_all); (case kb => k_all); (case kl => assumption); (case kw => first | omega | (rw [PySem.ofString_length]; decide)); (case k0 => omega); (case k1 => omega)); intro hc' hd' t2' h' tk' F' N'; rotate_left; intro hc' g₂ e d i1 j1 mt u1 i2 j2 v2 h' tk' hmt F' R' U'; rotate_right)
  trivial
example : True := by
  k_with "call ref" => (k_here; (with_reducible show wpAny _ _ (call (Value.ref 244) _) _ _ _); k_dflt (refine' use (D := 800) (U := 1700) ?u1 ?u2 ?u3 ?u4 (S_need ?kB ?kF ?kX ?kN ?kT ?kk ?kd ?ka ?kb ?kl ?k0 ?k1 ?_ ?_); (case u1 => exact rfl); (case u2 => exact rfl); (case u3 => exact Nat.le_of_ble_eq_true rfl); (case u4 => exact Nat.le_of_ble_eq_true rfl); (case kF => k_asm); (case kN => first | k_asm | exact news_tl (by k_asm)); (case kB => k_asm); (case kX => k_asm); (case kT => k_asm); (case kk => first | exact rfl | assumption); (case kd => k_asm); (case ka => k_all); (case kb => k_all); (case kl => assumption); (case k0 => omega); (case k1 => omega)); intro hc' he0 he1 t2' h' tk' F' N'; rotate_left; intro hc' g₂ e d i1 j1 mt u1 i2 j2 v2 h' tk' hmt F' R' U'; rotate_right)
  trivial
example : True := by
  k_with "call ref" => (k_here; (with_reducible show wpAny _ _ (call (Value.ref 223) _) _ _ _); k_dflt (refine' use (D := 800) (U := 1700) ?u1 ?u2 ?u3 ?u4 (S_until ?kB ?kF ?kX ?kN ?kT ?kk ?kd ?ka ?kb ?kl ?k0 ?k1 ?kw ?_ ?_); (case u1 => exact rfl); (case u2 => exact rfl); (case u3 => exact Nat.le_of_ble_eq_true rfl); (case u4 => exact Nat.le_of_ble_eq_true rfl); (case kF => k_asm); (case kN => first | k_asm | exact news_tl (by k_asm)); (case kB => k_asm); (case kX => k_asm); (case kT => k_asm); (case kk => first | exact rfl | assumption); (case kd => k_asm); (case ka => k_all); (case kb => k_all); (case kl => assumption); (case kw => first | omega | (rw [q_len (by first | exact .inl (by assumption) | exact .inr (by assumption))]; decide) | (rw [PySem.ofString_length]; decide)); (case k0 => omega); (case k1 => first | omega | exact q_lt (by assumption) (q_len (by first | exact .inl (by assumption) | exact .inr (by assumption))))); intro hc' hd' hl' t0' t2' h' tk' F' N'; rotate_left; intro hc' g₂ e d i1 j1 mt u1 i2 j2 v2 h' tk' hmt F' R' U'; rotate_right)
  trivial
example : True := by
  k_with "call ref" => (k_here; (with_reducible show wpAny _ _ (call (Value.ref 286) _) _ _ _); k_dflt (refine' use (D := 800) (U := 1700) ?u1 ?u2 ?u3 ?u4 (S_equals ?kB ?kF ?kX ?kN ?kT ?kk ?kd ?ka ?kb ?kl ?k0 ?k1 ?_ ?_); (case u1 => exact rfl); (case u2 => exact rfl); (case u3 => exact Nat.le_of_ble_eq_true rfl); (case u4 => exact Nat.le_of_ble_eq_true rfl); (case kF => k_asm); (case kN => first | k_asm | exact news_tl (by k_asm)); (case kB => k_asm); (case kX => k_asm); (case kT => k_asm); (case kk => first | exact rfl | assumption); (case kd => k_asm); (case ka => k_all); (case kb => k_all); (case kl => assumption); (case k0 => omega); (case k1 => omega)); intro be he' hc' hd' t2' h' tk' F' N'; rotate_left; intro he' g₂ e d i1 j1 mt u1 i2 j2 v2 h' tk' hmt F' R' U'; rotate_right)
  trivial
example : True := by
  k_with "call ref" => (k_here; (with_reducible show wpAny _ _ (call (Value.ref 258) _) _ _ _); k_dflt (refine' use (D := 780) (U := 1680) ?u1 ?u2 ?u3 ?u4 (S_quoted ?kB ?kF ?kX ?kN ?kT ?kk ?kd ?ka ?kb ?kl ?k0 ?k1 ?_ ?_); (case u1 => exact rfl); (case u2 => exact rfl); (case u3 => exact Nat.le_of_ble_eq_true rfl); (case u4 => exact Nat.le_of_ble_eq_true rfl); (case kF => k_asm); (case kN => first | k_asm | exact news_tl (by k_asm)); (case kB => k_asm); (case kX => k_asm); (case kT => k_asm); (case kk => first | exact rfl | assumption); (case kd => k_asm); (case ka => k_all); (case kb => k_all); (case kl => assumption); (case k0 => omega); (case k1 => omega)); intro hq' hql hc' hd' he' a' t0' t5' t2' h' tk' F' N' l1 l2 l3; rotate_left; intro he' g₂ e d i1 j1 mt u1 i2 j2 v2 h' tk' hmt F' R' U'; rotate_right)
  trivial
example : True := by
  k_with "call ref" => (k_here; (with_reducible show wpAny _ _ (call (Value.ref 293) _) _ _ _); k_dflt (refine' use (D := 760) (U := 1660) ?u1 ?u2 ?u3 ?u4 (S_word ?kB ?kF ?kX ?kN ?kT ?kk ?kd ?ka ?kb ?kl ?k0 ?k1 ?kw ?_ ?_); (case u1 => exact rfl); (case u2 => exact rfl); (case u3 => exact Nat.le_of_ble_eq_true rfl); (case u4 => exact Nat.le_of_ble_eq_true rfl); (case kF => k_asm); (case kN => first | k_asm | exact news_tl (by k_asm)); (case kB => k_asm); (case kX => k_asm); (case kT => k_asm); (case kk => first | exact rfl | assumption); (case kd => k_asm); (case ka => k_all); (case kb => k_all); (case kl => assumption); (case k0 => omega); (case k1 => omega); (case kw => first | omega | (rw [PySem.ofString_length]; decide))); intro v' b' hw' hc' hd' hl' a' t0' z5' t5' t2' h' tk' F' N' l1 l2 l3; rotate_left; intro he' g₂ e d i1 j1 mt u1 i2 j2 v2 h' tk' hmt F' R' U'; rotate_right)
  trivial
example : True := by
  k_with "call ref" => (k_here; (with_reducible show wpAny _ _ (call (Value.ref 307) _) _ _ _); k_dflt (refine' use (D := 860) (U := 1760) ?u1 ?u2 ?u3 ?u4 (S_version ?kB ?kF ?kX ?kN ?kT ?kk ?kv ?_); (case u1 => exact rfl); (case u2 => exact rfl); (case u3 => exact Nat.le_of_ble_eq_true rfl); (case u4 => exact Nat.le_of_ble_eq_true rfl); (case kF => k_asm); (case kN => first | k_asm | exact news_tl (by k_asm)); (case kB => k_asm); (case kX => k_asm); (case kT => k_asm); (case kk => first | exact rfl | assumption); (case kv => omega)); intro b' h' tk' hb' F' N')
  trivial
example : True := by
  k_with "call ref" => (k_here; (with_reducible show wpAny _ _ (call (Value.ref 300) _) _ _ _); k_dflt (refine' use (D := 860) (U := 1760) ?u1 ?u2 ?u3 ?u4 (S_enc ?kB ?kF ?kX ?kN ?kT ?kk ?kv ?_); (case u1 => exact rfl); (case u2 => exact rfl); (case u3 => exact Nat.le_of_ble_eq_true rfl); (case u4 => exact Nat.le_of_ble_eq_true rfl); (case kF => k_asm); (case kN => first | k_asm | exact news_tl (by k_asm)); (case kB => k_asm); (case kX => k_asm); (case kT => k_asm); (case kk => first | exact rfl | assumption); (case kv => omega)); intro b' h' tk' hb' F' N')
  trivial
section
variable {prog : Program} {w : World} {p : Program} {loose : List Str} {mean : ExcName → Option Value} {mg mb : Str → Option Value} {A₀ : Around} {base h₀ : Heap} {outer : List Env} {cn : Str} {cs : Scope} {ca L : Addr} {ccd : Value} {cl : List (Str × Addr)} {m : Str → Option Value} {rest : Led} {s : Shared} {Q E : Value → Shared → Prop}
variable {x dx : Addr} {T : Str} {k : Int} {h1 h2 : Int} {k1 t1 k2 t2 : Tok}
set_option maxRecDepth 100000 in
set_option maxHeartbeats 8000000 in
theorem S_pass
    (B : Below A₀ base outer h₀) (F : Fr h₀ L s.heap m) (X : (hd.heap_1_39 w.params).In h₀) (N : News h₀ L s.heap ((x, instObj 268 dx) :: (dx, curD T k h1 k1 t1 h2 k2 t2) :: rest)) (TT : Top p loose mean mg mb h₀) (hk : cs.kind = .function)
    (hxd : @LT.lt Nat _ dx x) (hdx : ∀ p ∈ rest, p.1 ≠ dx) (hx : ∀ p ∈ rest, p.1 ≠ x) (hT : T.length ≤ 10000) (hk0 : 0 ≤ k) (hk1 : k ≤ T.length)
    (r1 : ∀ b, passHead T k = some b → 0 ≤ b → b ≤ T.length → ∀ t2' h' tk', Fr h₀ L h' m → News h₀ L h' ((x, instObj 268 dx) :: (dx, curD T b h1 k1 t1 h2 k2 t2') :: rest) → Q .none { s with heap := h', toks := tk' })
    (rz : passHead T k = none → Faults base h₀ L m (envX cn cs L ca ccd cl) outer rest E s) :
    wpAny (model prog w) (topAt 740 1640 none (envX cn cs L ca ccd cl) outer) (call (.ref 321) [.ref x]) Q E s := by
  refine wpAny_call ?_
  k_dflt (refine' code_def ?k1 ?k2 ?k3 ?k4 ?k5 ?kA ?kF ?kK ?k6 ?k7 ?k8 ?k9 ?kB ?_ ?c2 ?c3 ?c4 ?c5; (case kA => exact rfl); (case kF => exact rfl); (case kK => first | exact rfl | assumption); (case k2 => k_asm); (case k1 => k_asm); (case k3 => k_asm); (case k4 => k_asm); (case k5 => k_asm); (case k6 => k_is); (case k7 => k_is); (case k8 => k_room); (case k9 => first | exact BindsTo.of_eq rfl | exact binds_K (by k_in) rfl (by k_is) rfl rfl rfl); (case c5 => decide); (case kB => exact locs rfl); (case c2 => exact rfl); (case c3 => exact rfl); (case c4 => exact rfl); k_whole; intro g' L' h' FG' F' N' B' X' T'; (try dsimp only); (try k_lift B'); (try k_fold))
  k_steps
  all_goals first
    | exact r1 _ (pass_on (by assumption) (by assumption) (by first | exact verAt_some (by assumption) (by assumption) ((by assumption : isVersion _ = _).trans (by assumption)) (by assumption) | exact verAt_same (by assumption)) (endAt_some (by assumption) ((by assumption : isEnc _ = _).trans (by assumption)) (by assumption))) (by omega) (by assumption) _ _ _ (by k_asm) (by k_asm)
    | exact rz (pass_on (by assumption) (by assumption) (by first | exact verAt_some (by assumption) (by assumption) ((by assumption : isVersion _ = _).trans (by assumption)) (by assumption) | exact verAt_same (by assumption)) (endAt_none3 (by assumption) (by assumption))) _ _ _ _ _ _ _ _ _ _ _ _ (by assumption) (by k_asm) (by assumption) (by assumption)
    | exact rz (pass_on (by assumption) (by assumption) (by first | exact verAt_some (by assumption) (by assumption) ((by assumption : isVersion _ = _).trans (by assumption)) (by assumption) | exact verAt_same (by assumption)) (endAt_none2 (by assumption) ((by assumption : isEnc _ = _).trans (by assumption)))) _ _ _ _ _ _ _ _ _ _ _ _ (by assumption) (by k_asm) (by assumption) (by assumption)
    | exact rz (pass_on (by assumption) (by assumption) (by first | exact verAt_some (by assumption) (by assumption) ((by assumption : isVersion _ = _).trans (by assumption)) (by assumption) | exact verAt_same (by assumption)) (endAt_none1 (by assumption))) _ _ _ _ _ _ _ _ _ _ _ _ (by assumption) (by k_asm) (by assumption) (by assumption)
    | exact rz (pass_no3 (verAt_none3 (by assumption) (by assumption) (by assumption))) _ _ _ _ _ _ _ _ _ _ _ _ (by assumption) (by k_asm) (by assumption) (by assumption)
    | exact rz (pass_no3 (verAt_none2 (by assumption) (by assumption) ((by assumption : isVersion _ = _).trans (by assumption)))) _ _ _ _ _ _ _ _ _ _ _ _ (by assumption) (by k_asm) (by assumption) (by assumption)
    | exact rz (pass_no3 (verAt_none1 (by assumption) (by assumption))) _ _ _ _ _ _ _ _ _ _ _ _ (by assumption) (by k_asm) (by assumption) (by assumption)
    | exact rz (pass_no2 (by assumption)) _ _ _ _ _ _ _ _ _ _ _ _ (by assumption) (by k_asm) (by assumption) (by assumption)
    | exact rz (pass_no1 (by assumption)) _ _ _ _ _ _ _ _ _ _ _ _ (by assumption) (by k_asm) (by assumption) (by assumption)
end


-- C9
example : True := by
  k_with_none
  trivial
example : True := by
  k_with "subscriptTail Name Constant ref int" => (k_here; with_unfolding_all refine' s_item ?k1 ?k2 ?k3 ?k4 ?k5 ?_ ?k6; (case k1 => k_asm); (case k2 => k_mem); (case k3 => decide); (case k4 => decide); (case k5 => rfl); (case k6 => with_unfolding_all rfl); k_whole)
  trivial
example : True := by
  k_with "binaryOp Mod int int" => (refine s_mod (by omega) ?_)
  trivial
example : True := by
  k_with "binaryOp FloorDiv int int" => (refine s_div (by omega) (by omega) ?_)
  trivial
example : True := by
  k_with "binaryOp Mult int int" => (refine s_mul (by omega) (by omega) ?_)
  trivial
example : True := by
  k_with "getMethod type:Exception" => (k_here; refine' method_type ?F ?X ?m (by decide +kernel) ?e ?h ?_; (case F => k_asm); (case X => k_asm); (case m => exact meta_Exception); (case e => k_dflt k_is); (case h => k_handed))
  trivial
example : True := by
  k_with "call builtin:Exception.__init__" => (k_here; k_dflt (refine' e_init ?kF ?kN ?kn ?kX ?kK ?kr ?_; (case kF => k_asm); (case kN => k_asm); (case kn => k_all); (case kX => k_in); (case kK => k_is); (case kr => simp [sizeLine_eq])); intro t' h' F' N' l1 l2; (k_lt2 l2); (replace l1 := allLt_of l1))
  trivial
example : True := by
  k_with "setAttr ref" => (k_here; k_dflt (refine' e_set_new ?kF ?kN ?kn ?kX ?k1 ?k2 ?k3 ?k4 ?kc ?kh ?km ?kr ?kt ?ks ?_; (case kF => k_asm); (case kN => first | k_asm | exact news_off (by k_asm)); (case kn => k_all); (case kX => k_in); (case k1 => rfl); (case k2 => rfl); (case k3 => rfl); (case k4 => rfl); (case kc => k_is); (case kh => rfl); (case km => k_is); (case kr => first | exact refuse136 _ | exact refuse148 _); (case kt => k_is); (case ks => k_is)); intro d' hs' ks' h' F' N' l3 l4; (k_lt2 l4); (replace l3 := allLt_of l3); (try (simp only [AllLt] at l3)); (try (obtain ⟨l5, l3⟩ := l3)); (try (obtain ⟨l6, l3⟩ := l3)))
  trivial
example : True := by
  k_with "setAttr ref" => (k_here; k_dflt (refine' e_set_old ?kF ?kN ?kg ?kn ?kX ?k1 ?k2 ?k3 ?kc ?kh ?km ?kr ?kt ?ks ?k5 ?ke ?k6 ?_; (case kF => k_asm); (case kN => exact news_swap (by k_asm)); (case kg => exact News.get (by k_asm) (.head _)); (case kn => k_all); (case kX => k_in); (case k1 => rfl); (case k2 => rfl); (case k3 => rfl); (case kc => k_is); (case kh => rfl); (case km => k_is); (case kr => first | exact refuse136 _ | exact refuse148 _); (case kt => k_is); (case ks => k_is); (case k5 => (rw [aRefKeyMayBeTheName_at, Bool.and_eq_false_iff]; right; simp [DictEntry.refKey])); (case ke => k_put); (case k6 => simp)); intro h' F' N')
  trivial
example : True := by
  k_with "exec Raise some none" => (k_here; k_dflt (refine' e_exec0 (C := 136) ?kh ?kX ?kK ?_; (case kh => rfl); (case kX => k_asm); (case kK => k_is)))
  trivial
example : True := by
  k_with "call ref" => (k_here; (with_reducible show wpAny _ _ (call (Value.ref 321) _) _ _ _); k_dflt (refine' use (D := 740) (U := 1640) ?u1 ?u2 ?u3 ?u4 (S_pass ?kB ?kF ?kX ?kN ?kT ?kk ?kd ?ka ?kb ?kl ?k0 ?k1 ?_ ?_); (case u1 => exact rfl); (case u2 => exact rfl); (case u3 => exact Nat.le_of_ble_eq_true rfl); (case u4 => exact Nat.le_of_ble_eq_true rfl); (case kF => k_asm); (case kN => first | k_asm | exact news_tl (by k_asm)); (case kB => k_asm); (case kX => k_asm); (case kT => k_asm); (case kk => first | exact rfl | assumption); (case kd => k_asm); (case ka => k_all); (case kb => k_all); (case kl => assumption); (case k0 => omega); (case k1 => omega)); intro b' hw' hc' hd' t2' h' tk' F' N'; rotate_left; intro he' g₂ e d i1 j1 mt u1 i2 j2 v2 h' tk' hmt F' R' U'; rotate_right)
  trivial
example : True := by
  k_with "call ref" => (k_here; (with_reducible show wpAny _ _ (call (Value.ref 148) _) _ _ _); k_dflt (refine' use (D := 880) (U := 1780) ?u1 ?u2 ?u3 ?u4 (S_entityFault ?kB ?kF ?kX ?kN ?kT ?kk ?_); (case u1 => exact rfl); (case u2 => exact rfl); (case u3 => exact Nat.le_of_ble_eq_true rfl); (case u4 => exact Nat.le_of_ble_eq_true rfl); (case kF => k_asm); (case kN => first | k_asm | exact news_tl (by k_asm)); (case kB => k_asm); (case kX => k_asm); (case kT => k_asm); (case kk => first | exact rfl | assumption)); intro e' t' d' h' tk' F' N' l1')
  trivial
example : True := by
  k_with "noteFrame ref" => (k_here; (with_reducible rename RaisedD _ _ _ _ _ _ _ _ _ _ => rdX); k_dflt (refine' caught_DB rdX ?kF ?kK ?kU ?XB ?TB ?ex ?kq ?_ ?c1 ?c2 ?c3 ?c4; (case c1 => rfl); (case c2 => rfl); (case c3 => rfl); (case c4 => decide); (case kF => k_asm); (case kK => k_asm); (case kU => k_asm); (case XB => assumption); (case TB => assumption); (case ex => k_is); (case kq => kts_isx); k_whole); intro h' g' oe vs tk T' F' N' c1' c2' c3' c4' B' X' P'; (try k_lift B'))
  trivial
example : True := by
  k_with "exec Raise some none" => (k_here; k_dflt (refine' e_exec1 (C := 148) ?kh ?kX ?kK ?kF ?_; (case kh => rfl); (case kF => k_asm); (case kX => k_asm); (case kK => k_is)))
  trivial
example : True := by
  k_with "getAttr ref" => (k_here; k_dflt (refine' e_get (C := 136) ?kX (inst_exc ?kN (.head _) (.tail _ (.head _)) ?c1 ?c2 ?c3) ?k1 ?k2 ?k3 ?kf ?kv ?_; (case kN => k_asm); (case c1 => assumption); (case c2 => assumption); (case c3 => assumption); (case kX => k_in); (case k1 => k_is); (case k2 => k_is); (case k3 => k_is); (case kf => first | k_is | rfl); (case kv => rfl)))
  trivial
section
variable {prog : Program} {w : World} {p : Program} {loose : List Str} {mean : ExcName → Option Value} {mg mb : Str → Option Value} {A₀ : Around} {base h₀ : Heap} {outer : List Env} {cn : Str} {cs : Scope} {ca L : Addr} {ccd : Value} {cl : List (Str × Addr)} {m : Str → Option Value} {rest : Led} {s : Shared} {Q E : Value → Shared → Prop}
variable {x dx : Addr} {T : Str} {k : Int} {h1 h2 : Int} {k1 t1 k2 t2 : Tok}
set_option maxRecDepth 100000 in
set_option maxHeartbeats 8000000 in
theorem S_without {V : Str} {tV : Tok} {A₀ : Around}
    (B : Below A₀ base outer h₀) (F : Fr h₀ L s.heap m) (X : (hd.heap_1_39 w.params).In h₀) (N : News h₀ L s.heap rest) (TT : Top p loose mean mg mb h₀) (hk : cs.kind = .function)
    (XB : (hd.heap_1_39 w.params).In base) (TB : Top p loose mean mg mb base) (hV : V.length ≤ 10000)
    (r1 : ∀ v, bare V = some v → v.length ≤ V.length → ∀ t0 h' tk', Fr h₀ L h' m → News h₀ L h' rest → Q (.str v t0) { s with heap := h', toks := tk' })
    (rz : bare V = none → EFaults base h₀ L m (envX cn cs L ca ccd cl) outer rest E s) :
    wpAny (model prog w) (topAt 720 1620 none (envX cn cs L ca ccd cl) outer) (call (.ref 328) [.str V tV]) Q E s := by
  refine wpAny_call ?_
  k_dflt (refine' code_def ?k1 ?k2 ?k3 ?k4 ?k5 ?kA ?kF ?kK ?k6 ?k7 ?k8 ?k9 ?kB ?_ ?c2 ?c3 ?c4 ?c5; (case kA => exact rfl); (case kF => exact rfl); (case kK => first | exact rfl | assumption); (case k2 => k_asm); (case k1 => k_asm); (case k3 => k_asm); (case k4 => k_asm); (case k5 => k_asm); (case k6 => k_is); (case k7 => k_is); (case k8 => k_room); (case k9 => first | exact BindsTo.of_eq rfl | exact binds_K (by k_in) rfl (by k_is) rfl rfl rfl); (case c5 => decide); (case kB => exact locs rfl); (case c2 => exact rfl); (case c3 => exact rfl); (case c4 => exact rfl); k_whole; intro g' L' h' FG' F' N' B' X' T'; (try dsimp only); (try k_lift B'); (try k_fold))
  k_steps
  · exact r1 _ (bare_same (head_no1 (by assumption))) (Nat.le_refl _) _ _ _ (by k_asm) (by k_asm)
  · exact r1 _ (bare_same (head_no2 (by assumption))) (Nat.le_refl _) _ _ _ (by k_asm) (by k_asm)
  · exact r1 _ (bare_same (head_no3 (by assumption))) (Nat.le_refl _) _ _ _ (by k_asm) (by k_asm)
  · exact r1 _ (bare_cut (head_yes (by assumption) (by assumption) (by assumption)) (by assumption)) (PySem.Txt.slice_le _ _ _) _ _ _ (by k_asm) (news_tl (news_tl (by k_asm)))
  · have hz := bare_none (T := V) (head_yes (by assumption) (by assumption) (by assumption)) (by assumption)
    (with_reducible rename KtsTurn _ _ _ => T1)
    rename AllLt _ _ => l1'
    obtain ⟨l2', l3', l4'⟩ := l1'
    refine ⟨_, _, _, _, _, _, rfl, by k_asm, by k_asm, List.forall_mem_cons.mpr ⟨Nat.ne_of_lt l2', List.forall_mem_cons.mpr ⟨Nat.ne_of_lt l3', allLt_off l4'⟩⟩, .head _, by assumption, by assumption, fun h2' F2 N2 => ?_⟩
    refine suite_leave (news := rest) ?kB F2 (cb_drop N2 (by kcj_all)) (allLt_off l4') rfl rfl rfl rfl (fun h5 t5 R U => rz hz _ _ _ _ _ _ ?kF (R.unturn T1 ?kn) (turn_upto T1 U)) rfl rfl rfl rfl rfl
    case kB => assumption
    case kF => assumption
    case kn => intro q hq; first | exact ((by assumption : News _ _ _ rest) q hq).2.2 | exact ((by assumption : News _ _ _ (_ :: _ :: rest)) q (.tail _ (.tail _ hq))).2.2
end


-- D1
example : True := by
  k_with_none
  trivial
example : True := by
  k_with "subscriptTail Name Constant ref int" => (k_here; with_unfolding_all refine' s_item ?k1 ?k2 ?k3 ?k4 ?k5 ?_ ?k6; (case k1 => k_asm); (case k2 => k_mem); (case k3 => decide); (case k4 => decide); (case k5 => rfl); (case k6 => with_unfolding_all rfl); k_whole)
  trivial
example : True := by
  k_with "binaryOp Mod int int" => (refine s_mod (by omega) ?_)
  trivial
example : True := by
  k_with "binaryOp FloorDiv int int" => (refine s_div (by omega) (by omega) ?_)
  trivial
example : True := by
  k_with "binaryOp Mult int int" => (refine s_mul (by omega) (by omega) ?_)
  trivial
example : True := by
  k_with "getMethod type:Exception" => (k_here; refine' method_type ?F ?X ?m (by decide +kernel) ?e ?h ?_; (case F => k_asm); (case X => k_asm); (case m => exact meta_Exception); (case e => k_dflt k_is); (case h => k_handed))
  trivial
example : True := by
  k_with "call builtin:Exception.__init__" => (k_here; k_dflt (refine' e_init ?kF ?kN ?kn ?kX ?kK ?kr ?_; (case kF => k_asm); (case kN => k_asm); (case kn => k_all); (case kX => k_in); (case kK => k_is); (case kr => simp [sizeLine_eq])); intro t' h' F' N' l1 l2; (k_lt2 l2); (replace l1 := allLt_of l1))
  trivial
example : True := by
  k_with "setAttr ref" => (k_here; k_dflt (refine' e_set_new ?kF ?kN ?kn ?kX ?k1 ?k2 ?k3 ?k4 ?kc ?kh ?km ?kr ?kt ?ks ?_; (case kF => k_asm); (case kN => first | k_asm | exact news_off (by k_asm)); (case kn => k_all); (case kX => k_in); (case k1 => rfl); (case k2 => rfl); (case k3 => rfl); (case k4 => rfl); (case kc => k_is); (case kh => rfl); (case km => k_is); (case kr => first | exact refuse136 _ | exact refuse148 _); (case kt => k_is); (case ks => k_is)); intro d' hs' ks' h' F' N' l3 l4; (k_lt2 l4); (replace l3 := allLt_of l3); (try (simp only [AllLt] at l3)); (try (obtain ⟨l5, l3⟩ := l3)); (try (obtain ⟨l6, l3⟩ := l3)))
  trivial
example : True := by
  k_with "setAttr ref" => (k_here; k_dflt (refine' e_set_old ?kF ?kN ?kg ?kn ?kX ?k1 ?k2 ?k3 ?kc ?kh ?km ?kr ?kt ?ks ?k5 ?ke ?k6 ?_; (case kF => k_asm); (case kN => exact news_swap (by k_asm)); (case kg => exact News.get (by k_asm) (.head _)); (case kn => k_all); (case kX => k_in); (case k1 => rfl); (case k2 => rfl); (case k3 => rfl); (case kc => k_is); (case kh => rfl); (case km => k_is); (case kr => first | exact refuse136 _ | exact refuse148 _); (case kt => k_is); (case ks => k_is); (case k5 => (rw [aRefKeyMayBeTheName_at, Bool.and_eq_false_iff]; right; simp [DictEntry.refKey])); (case ke => k_put); (case k6 => simp)); intro h' F' N')
  trivial
example : True := by
  k_with "exec Raise some none" => (k_here; k_dflt (refine' e_exec0 (C := 136) ?kh ?kX ?kK ?_; (case kh => rfl); (case kX => k_asm); (case kK => k_is)))
  trivial
example : True := by
  k_with "exec While BoolOp" => (k_here; rename Fr _ _ _ _ => lF'; rename News _ _ _ _ => lN'; k_dflt (refine' still_while (σ := Int × Tok) (fun c => (x, instObj 268 dx) :: (dx, curD T c.1 h1 k1 t1 h2 k2 c.2) :: rest) (fun c => 0 ≤ c.1 ∧ c.1 ≤ T.length ∧ spEnd T c.1 = spEnd T k) (fun c => (T.length - c.1).toNat) (k, t2) lF' ?kn ⟨hk0, hk1, rfl⟩ ?_); (case kn => k_asm); clear lF' lN'; rintro ⟨c, tc⟩ gh gt ⟨hc0, hc1, hcs⟩ lF' lN'; dsimp only at hc0 hc1 hcs lN')
  trivial
example : True := by
  k_with "subscriptTail" => (k_here; (with_reducible show wpAny _ _ (subscriptTail _ _ (Value.str _ _) (Value.int _ _)) _ _ _); refine item_str (fitsSsize_of (N := 9223372036854775808) (by omega) (by omega) (Int.le_refl _)) (by omega) (by omega) ?_ (by with_unfolding_all rfl) (by intro _; with_unfolding_all rfl); intro hi1)
  trivial
example : True := by
  k_with "exec For Tuple Name cons nil" => (k_here; (rename Fr _ _ _ _ => lF'); (with_unfolding_all refine' For_turns lF' ?_; k_whole))
  trivial
section
variable {prog : Program} {w : World} {p : Program} {loose : List Str} {mean : ExcName → Option Value} {mg mb : Str → Option Value} {A₀ : Around} {base h₀ : Heap} {outer : List Env} {cn : Str} {cs : Scope} {ca L : Addr} {ccd : Value} {cl : List (Str × Addr)} {m : Str → Option Value} {rest : Led} {s : Shared} {Q E : Value → Shared → Prop}
variable {x dx : Addr} {T : Str} {k : Int} {h1 h2 : Int} {k1 t1 k2 t2 : Tok}
set_option maxRecDepth 100000 in
set_option maxHeartbeats 8000000 in
theorem S_char {n : Nat} {tV : Tok} {A₀ : Around}
    (B : Below A₀ base outer h₀) (F : Fr h₀ L s.heap m) (X : (hd.heap_1_39 w.params).In h₀) (N : News h₀ L s.heap rest) (TT : Top p loose mean mg mb h₀) (hk : cs.kind = .function)
    (r1 : ∀ b h' tk', charOk n = b → Fr h₀ L h' m → News h₀ L h' rest → Q (.bool b) { s with heap := h', toks := tk' }) :
    wpAny (model prog w) (topAt 860 1760 none (envX cn cs L ca ccd cl) outer) (call (.ref 63) [.str ⟨#[n]⟩ tV]) Q E s := by
  refine wpAny_call ?_
  k_dflt (refine' enterF ?k1 ?k2 ?k3 ?k4 ?k5 ?kA ?kF ?kK ?k6 ?k7 ?k8 ?k9 ?kB ?_ ?c2 ?c3 ?c4 ?c5; (case kA => exact rfl); (case kF => exact rfl); (case kK => first | exact rfl | assumption); (case k2 => k_asm); (case k1 => k_asm); (case k3 => k_asm); (case k4 => k_asm); (case k5 => k_asm); (case k6 => k_is); (case k7 => k_is); (case k8 => k_room); (case k9 => first | exact BindsTo.of_eq rfl | exact binds_K (by k_in) rfl (by k_is) rfl rfl rfl); (case c5 => decide); (case kB => exact locs rfl); (case c2 => exact rfl); (case c3 => exact rfl); (case c4 => exact rfl); k_whole; intro g' L' h' FG' F' N' B' X' T'; (try dsimp only); (try k_lift B'); (try k_fold))
  k_steps
  · exact r1 _ _ _ (charOk_sp (by omega) rfl) (by k_asm) (by k_asm)
  · exact r1 _ _ _ (charOk_1 (by omega) (by omega)) (by k_asm) (by k_asm)
  · exact r1 _ _ _ (charOk_2 (by omega) (by omega) (by omega)) (by k_asm) (by k_asm)
  · exact r1 _ _ _ (charOk_3 (by omega) (by omega) (by omega)) (by k_asm) (by k_asm)
  · exact r1 _ _ _ (charOk_4 (by omega) (by omega) (by omega)) (by k_asm) (by k_asm)
  · exact r1 _ _ _ (charOk_5 (by omega) (by omega) (by omega)) (by k_asm) (by k_asm)
  · exact r1 _ _ _ (charOk_6 (by omega) (by omega)) (by k_asm) (by k_asm)
end


-- D2
example : True := by
  k_with_none
  trivial
example : True := by
  k_with "subscriptTail Name Constant ref int" => (k_here; with_unfolding_all refine' s_item ?k1 ?k2 ?k3 ?k4 ?k5 ?_ ?k6; (case k1 => k_asm); (case k2 => k_mem); (case k3 => decide); (case k4 => decide); (case k5 => rfl); (case k6 => with_unfolding_all rfl); k_whole)
  trivial
example : True := by
  k_with "binaryOp Mod int int" => (refine s_mod (by omega) ?_)
  trivial
example : True := by
  k_with "binaryOp FloorDiv int int" => (refine s_div (by omega) (by omega) ?_)
  trivial
example : True := by
  k_with "binaryOp Mult int int" => (refine s_mul (by omega) (by omega) ?_)
  trivial
example : True := by
  k_with "getMethod type:Exception" => (k_here; refine' method_type ?F ?X ?m (by decide +kernel) ?e ?h ?_; (case F => k_asm); (case X => k_asm); (case m => exact meta_Exception); (case e => k_dflt k_is); (case h => k_handed))
  trivial
example : True := by
  k_with "call builtin:Exception.__init__" => (k_here; k_dflt (refine' e_init ?kF ?kN ?kn ?kX ?kK ?kr ?_; (case kF => k_asm); (case kN => k_asm); (case kn => k_all); (case kX => k_in); (case kK => k_is); (case kr => simp [sizeLine_eq])); intro t' h' F' N' l1 l2; (k_lt2 l2); (replace l1 := allLt_of l1))
  trivial
example : True := by
  k_with "setAttr ref" => (k_here; k_dflt (refine' e_set_new ?kF ?kN ?kn ?kX ?k1 ?k2 ?k3 ?k4 ?kc ?kh ?km ?kr ?kt ?ks ?_; (case kF => k_asm); (case kN => first | k_asm | exact news_off (by k_asm)); (case kn => k_all); (case kX => k_in); (case k1 => rfl); (case k2 => rfl); (case k3 => rfl); (case k4 => rfl); (case kc => k_is); (case kh => rfl); (case km => k_is); (case kr => first | exact refuse136 _ | exact refuse148 _); (case kt => k_is); (case ks => k_is)); intro d' hs' ks' h' F' N' l3 l4; (k_lt2 l4); (replace l3 := allLt_of l3); (try (simp only [AllLt] at l3)); (try (obtain ⟨l5, l3⟩ := l3)); (try (obtain ⟨l6, l3⟩ := l3)))
  trivial
example : True := by
  k_with "setAttr ref" => (k_here; k_dflt (refine' e_set_old ?kF ?kN ?kg ?kn ?kX ?k1 ?k2 ?k3 ?kc ?kh ?km ?kr ?kt ?ks ?k5 ?ke ?k6 ?_; (case kF => k_asm); (case kN => exact news_swap (by k_asm)); (case kg => exact News.get (by k_asm) (.head _)); (case kn => k_all); (case kX => k_in); (case k1 => rfl); (case k2 => rfl); (case k3 => rfl); (case kc => k_is); (case kh => rfl); (case km => k_is); (case kr => first | exact refuse136 _ | exact refuse148 _); (case kt => k_is); (case ks => k_is); (case k5 => (rw [aRefKeyMayBeTheName_at, Bool.and_eq_false_iff]; right; simp [DictEntry.refKey])); (case ke => k_put); (case k6 => simp)); intro h' F' N')
  trivial
example : True := by
  k_with "exec Raise some none" => (k_here; k_dflt (refine' e_exec0 (C := 136) ?kh ?kX ?kK ?_; (case kh => rfl); (case kX => k_asm); (case kK => k_is)))
  trivial
example : True := by
  k_with "exec While BoolOp" => (k_here; rename Fr _ _ _ _ => lF'; rename News _ _ _ _ => lN'; k_dflt (refine' still_while (σ := Int × Tok) (fun c => (x, instObj 268 dx) :: (dx, curD T c.1 h1 k1 t1 h2 k2 c.2) :: rest) (fun c => 0 ≤ c.1 ∧ c.1 ≤ T.length ∧ spEnd T c.1 = spEnd T k) (fun c => (T.length - c.1).toNat) (k, t2) lF' ?kn ⟨hk0, hk1, rfl⟩ ?_); (case kn => k_asm); clear lF' lN'; rintro ⟨c, tc⟩ gh gt ⟨hc0, hc1, hcs⟩ lF' lN'; dsimp only at hc0 hc1 hcs lN')
  trivial
example : True := by
  k_with "subscriptTail" => (k_here; (with_reducible show wpAny _ _ (subscriptTail _ _ (Value.str _ _) (Value.int _ _)) _ _ _); refine item_str (fitsSsize_of (N := 9223372036854775808) (by omega) (by omega) (Int.le_refl _)) (by omega) (by omega) ?_ (by with_unfolding_all rfl) (by intro _; with_unfolding_all rfl); intro hi1)
  trivial
example : True := by
  k_with "exec For" => (k_here; (rename Fr _ _ _ _ => lF'); (with_unfolding_all refine' For_invVF lF' ?k1 ?k2 ?_; (case k1 => exact rfl); (case k2 => exact rfl); k_whole))
  trivial
section
variable {prog : Program} {w : World} {p : Program} {loose : List Str} {mean : ExcName → Option Value} {mg mb : Str → Option Value} {A₀ : Around} {base h₀ : Heap} {outer : List Env} {cn : Str} {cs : Scope} {ca L : Addr} {ccd : Value} {cl : List (Str × Addr)} {m : Str → Option Value} {rest : Led} {s : Shared} {Q E : Value → Shared → Prop}
variable {x dx : Addr} {T : Str} {k : Int} {h1 h2 : Int} {k1 t1 k2 t2 : Tok}
example : True := by
  k_with "call ref" => (k_here; (with_reducible show wpAny _ _ (call (Value.ref 63) _) _ _ _); k_dflt (refine' use (D := 860) (U := 1760) ?u1 ?u2 ?u3 ?u4 (S_char ?kB ?kF ?kX ?kN ?kT ?kk ?_); (case u1 => exact rfl); (case u2 => exact rfl); (case u3 => exact Nat.le_of_ble_eq_true rfl); (case u4 => exact Nat.le_of_ble_eq_true rfl); (case kF => k_asm); (case kN => k_asm); (case kB => k_asm); (case kX => k_asm); (case kT => k_asm); (case kk => first | exact rfl | assumption)); intro b' h' tk' hb' F' N')
  trivial
example : True := by
  k_with "pyIter ref" => (k_here; (rename IsRange _ _ _ _ _ _ _ _ => rgX); rename Fr _ _ _ _ => lF'; rename News _ _ _ _ => lN'; with_unfolding_all refine' range_each (fun i => OkTo V i) ?khh rgX (small_one (by omega) (by omega) (by omega) (by omega)) (rangeSize_nat _ _) lF' lN' (okTo_0 V) ?_ ?_; (case khh => rfl); clear lF' lN'; intro i t gh gt own hlt hP gF gN; rotate_left; intro o gh gt hP gF gN; rotate_right; all_goals (try k_fold))
  trivial
example : True := by
  k_with "SignQ" => first | (with_unfolding_all refine sign_next (by assumption) (by assumption) (by intro y hy; exact if_neg hy) (ok_snoc (by assumption) (okAt_of ?_))) | (dsimp only [SignQ])
  trivial
set_option maxRecDepth 100000 in
set_option maxHeartbeats 400000 in
theorem S_first {V : Str} {tV : Tok} {A₀ : Around}
    (B : Below A₀ base outer h₀) (F : Fr h₀ L s.heap m) (X : (hd.heap_1_39 w.params).In h₀) (N : News h₀ L s.heap rest) (TT : Top p loose mean mg mb h₀) (hk : cs.kind = .function) (hV : V.length ≤ 200000)
    (r1 : firstOk V = true → ∀ h' tk', Fr h₀ L h' m → News h₀ L h' rest → Q .none { s with heap := h', toks := tk' })
    (r0 : firstOk V = false → ∀ z t0 h' tk', Fr h₀ L h' m → News h₀ L h' rest → Q (.int z t0) { s with heap := h', toks := tk' }) :
    wpAny (model prog w) (topAt 840 1740 none (envX cn cs L ca ccd cl) outer) (call (.ref 91) [.str V tV]) Q E s := by
  refine wpAny_call ?_
  k_dflt (refine' enterF ?k1 ?k2 ?k3 ?k4 ?k5 ?kA ?kF ?kK ?k6 ?k7 ?k8 ?k9 ?kB ?_ ?c2 ?c3 ?c4 ?c5; (case kA => exact rfl); (case kF => exact rfl); (case kK => first | exact rfl | assumption); (case k2 => k_asm); (case k1 => k_asm); (case k3 => k_asm); (case k4 => k_asm); (case k5 => k_asm); (case k6 => k_is); (case k7 => k_is); (case k8 => k_room); (case k9 => first | exact BindsTo.of_eq rfl | exact binds_K (by k_in) rfl (by k_is) rfl rfl rfl); (case c5 => decide); (case kB => exact locs rfl); (case c2 => exact rfl); (case c3 => exact rfl); (case c4 => exact rfl); k_whole; intro g' L' h' FG' F' N' B' X' T'; (try dsimp only); (try k_lift B'); (try k_fold))
  k_steps
  · rename charOk _ = _ => q1
    exact q1.trans (by assumption)
  · rename charOk _ = _ => q1
    exact r0 (first_no2 q1 (by assumption) (by omega)) _ _ _ _ (by k_asm) (by k_asm)
  · rename OkTo _ _ => q
    rw [show ((V.length : Int) - 0).toNat = V.length by omega] at q
    exact r1 (first_yes q) _ _ (by k_asm) (by k_asm)
end


-- D3
example : True := by
  k_with_none
  trivial
example : True := by
  k_with "subscriptTail Name Constant ref int" => (k_here; with_unfolding_all refine' s_item ?k1 ?k2 ?k3 ?k4 ?k5 ?_ ?k6; (case k1 => k_asm); (case k2 => k_mem); (case k3 => decide); (case k4 => decide); (case k5 => rfl); (case k6 => with_unfolding_all rfl); k_whole)
  trivial
example : True := by
  k_with "binaryOp Mod int int" => (refine s_mod (by omega) ?_)
  trivial
example : True := by
  k_with "binaryOp FloorDiv int int" => (refine s_div (by omega) (by omega) ?_)
  trivial
example : True := by
  k_with "binaryOp Mult int int" => (refine s_mul (by omega) (by omega) ?_)
  trivial
example : True := by
  k_with "getMethod type:Exception" => (k_here; refine' method_type ?F ?X ?m (by decide +kernel) ?e ?h ?_; (case F => k_asm); (case X => k_asm); (case m => exact meta_Exception); (case e => k_dflt k_is); (case h => k_handed))
  trivial
example : True := by
  k_with "call builtin:Exception.__init__" => (k_here; k_dflt (refine' e_init ?kF ?kN ?kn ?kX ?kK ?kr ?_; (case kF => k_asm); (case kN => k_asm); (case kn => k_all); (case kX => k_in); (case kK => k_is); (case kr => simp [sizeLine_eq])); intro t' h' F' N' l1 l2; (k_lt2 l2); (replace l1 := allLt_of l1))
  trivial
example : True := by
  k_with "setAttr ref" => (k_here; k_dflt (refine' e_set_new ?kF ?kN ?kn ?kX ?k1 ?k2 ?k3 ?k4 ?kc ?kh ?km ?kr ?kt ?ks ?_; (case kF => k_asm); (case kN => first | k_asm | exact news_off (by k_asm)); (case kn => k_all); (case kX => k_in); (case k1 => rfl); (case k2 => rfl); (case k3 => rfl); (case k4 => rfl); (case kc => k_is); (case kh => rfl); (case km => k_is); (case kr => first | exact refuse136 _ | exact refuse148 _); (case kt => k_is); (case ks => k_is)); intro d' hs' ks' h' F' N' l3 l4; (k_lt2 l4); (replace l3 := allLt_of l3); (try (simp only [AllLt] at l3)); (try (obtain ⟨l5, l3⟩ := l3)); (try (obtain ⟨l6, l3⟩ := l3)))
  trivial
example : True := by
  k_with "setAttr ref" => (k_here; k_dflt (refine' e_set_old ?kF ?kN ?kg ?kn ?kX ?k1 ?k2 ?k3 ?kc ?kh ?km ?kr ?kt ?ks ?k5 ?ke ?k6 ?_; (case kF => k_asm); (case kN => exact news_swap (by k_asm)); (case kg => exact News.get (by k_asm) (.head _)); (case kn => k_all); (case kX => k_in); (case k1 => rfl); (case k2 => rfl); (case k3 => rfl); (case kc => k_is); (case kh => rfl); (case km => k_is); (case kr => first | exact refuse136 _ | exact refuse148 _); (case kt => k_is); (case ks => k_is); (case k5 => (rw [aRefKeyMayBeTheName_at, Bool.and_eq_false_iff]; right; simp [DictEntry.refKey])); (case ke => k_put); (case k6 => simp)); intro h' F' N')
  trivial
example : True := by
  k_with "exec Raise some none" => (k_here; k_dflt (refine' e_exec0 (C := 136) ?kh ?kX ?kK ?_; (case kh => rfl); (case kX => k_asm); (case kK => k_is)))
  trivial
example : True := by
  k_with "call builtin:str.join" => (k_here; first | (refine SC.join (by assumption) (by assumption) (ends_ok1 (by assumption)) ?_; have hj1 := ends_len1 (by assumption); intro _ _) | (refine SC.join (by assumption) (by assumption) (ends_ok2 (by assumption)) ?_; intro _ _))
  trivial
section
variable {prog : Program} {w : World} {p : Program} {loose : List Str} {mean : ExcName → Option Value} {mg mb : Str → Option Value} {A₀ : Around} {base h₀ : Heap} {outer : List Env} {cn : Str} {cs : Scope} {ca L : Addr} {ccd : Value} {cl : List (Str × Addr)} {m : Str → Option Value} {rest : Led} {s : Shared} {Q E : Value → Shared → Prop}
variable {x dx : Addr} {T : Str} {k : Int} {h1 h2 : Int} {k1 t1 k2 t2 : Tok}
set_option maxRecDepth 100000 in
set_option maxHeartbeats 800000 in
theorem S_ends {V : Str} {tV : Tok} {A₀ : Around}
    (B : Below A₀ base outer h₀) (F : Fr h₀ L s.heap m) (X : (hd.heap_1_39 w.params).In h₀) (N : News h₀ L s.heap rest) (TT : Top p loose mean mg mb h₀) (hk : cs.kind = .function) (hV : V.length ≤ 10001)
    (r1 : ∀ t0 h' tk', Fr h₀ L h' m → News h₀ L h' rest → Q (.str (plainEnds V) t0) { s with heap := h', toks := tk' }) :
    wpAny (model prog w) (topAt 860 1760 none (envX cn cs L ca ccd cl) outer) (call (.ref 98) [.str V tV]) Q E s := by
  refine wpAny_call ?_
  k_dflt (refine' enterF ?k1 ?k2 ?k3 ?k4 ?k5 ?kA ?kF ?kK ?k6 ?k7 ?k8 ?k9 ?kB ?_ ?c2 ?c3 ?c4 ?c5; (case kA => exact rfl); (case kF => exact rfl); (case kK => first | exact rfl | assumption); (case k2 => k_asm); (case k1 => k_asm); (case k3 => k_asm); (case k4 => k_asm); (case k5 => k_asm); (case k6 => k_is); (case k7 => k_is); (case k8 => k_room); (case k9 => first | exact BindsTo.of_eq rfl | exact binds_K (by k_in) rfl (by k_is) rfl rfl rfl); (case c5 => decide); (case kB => exact locs rfl); (case c2 => exact rfl); (case c3 => exact rfl); (case c4 => exact rfl); k_whole; intro g' L' h' FG' F' N' B' X' T'; (try dsimp only); (try k_lift B'); (try k_fold))
  k_steps
  rw [plainEnds_eq]
  exact r1 _ _ _ (by k_asm) (by k_asm)
end


-- D4
example : True := by
  k_with_none
  trivial
example : True := by
  k_with "subscriptTail Name Constant ref int" => (k_here; with_unfolding_all refine' s_item ?k1 ?k2 ?k3 ?k4 ?k5 ?_ ?k6; (case k1 => k_asm); (case k2 => k_mem); (case k3 => decide); (case k4 => decide); (case k5 => rfl); (case k6 => with_unfolding_all rfl); k_whole)
  trivial
example : True := by
  k_with "binaryOp Mod int int" => (refine s_mod (by omega) ?_)
  trivial
example : True := by
  k_with "binaryOp FloorDiv int int" => (refine s_div (by omega) (by omega) ?_)
  trivial
example : True := by
  k_with "binaryOp Mult int int" => (refine s_mul (by omega) (by omega) ?_)
  trivial
example : True := by
  k_with "getMethod type:Exception" => (k_here; refine' method_type ?F ?X ?m (by decide +kernel) ?e ?h ?_; (case F => k_asm); (case X => k_asm); (case m => exact meta_Exception); (case e => k_dflt k_is); (case h => k_handed))
  trivial
example : True := by
  k_with "call builtin:Exception.__init__" => (k_here; k_dflt (refine' e_init ?kF ?kN ?kn ?kX ?kK ?kr ?_; (case kF => k_asm); (case kN => k_asm); (case kn => k_all); (case kX => k_in); (case kK => k_is); (case kr => simp [sizeLine_eq])); intro t' h' F' N' l1 l2; (k_lt2 l2); (replace l1 := allLt_of l1))
  trivial
example : True := by
  k_with "setAttr ref" => (k_here; k_dflt (refine' e_set_new ?kF ?kN ?kn ?kX ?k1 ?k2 ?k3 ?k4 ?kc ?kh ?km ?kr ?kt ?ks ?_; (case kF => k_asm); (case kN => first | k_asm | exact news_off (by k_asm)); (case kn => k_all); (case kX => k_in); (case k1 => rfl); (case k2 => rfl); (case k3 => rfl); (case k4 => rfl); (case kc => k_is); (case kh => rfl); (case km => k_is); (case kr => first | exact refuse136 _ | exact refuse148 _); (case kt => k_is); (case ks => k_is)); intro d' hs' ks' h' F' N' l3 l4; (k_lt2 l4); (replace l3 := allLt_of l3); (try (simp only [AllLt] at l3)); (try (obtain ⟨l5, l3⟩ := l3)); (try (obtain ⟨l6, l3⟩ := l3)))
  trivial
example : True := by
  k_with "setAttr ref" => (k_here; k_dflt (refine' e_set_old ?kF ?kN ?kg ?kn ?kX ?k1 ?k2 ?k3 ?kc ?kh ?km ?kr ?kt ?ks ?k5 ?ke ?k6 ?_; (case kF => k_asm); (case kN => exact news_swap (by k_asm)); (case kg => exact News.get (by k_asm) (.head _)); (case kn => k_all); (case kX => k_in); (case k1 => rfl); (case k2 => rfl); (case k3 => rfl); (case kc => k_is); (case kh => rfl); (case km => k_is); (case kr => first | exact refuse136 _ | exact refuse148 _); (case kt => k_is); (case ks => k_is); (case k5 => (rw [aRefKeyMayBeTheName_at, Bool.and_eq_false_iff]; right; simp [DictEntry.refKey])); (case ke => k_put); (case k6 => simp)); intro h' F' N')
  trivial
example : True := by
  k_with "exec Raise some none" => (k_here; k_dflt (refine' e_exec0 (C := 136) ?kh ?kX ?kK ?_; (case kh => rfl); (case kX => k_asm); (case kK => k_is)))
  trivial
example : True := by
  k_with "call ref" => (k_here; (with_reducible show wpAny _ _ (call (Value.ref 91) _) _ _ _); k_dflt (refine' use (D := 840) (U := 1740) ?u1 ?u2 ?u3 ?u4 (S_first ?kB ?kF ?kX ?kN ?kT ?kk ?kv ?_ ?_); (case u1 => exact rfl); (case u2 => exact rfl); (case u3 => exact Nat.le_of_ble_eq_true rfl); (case u4 => exact Nat.le_of_ble_eq_true rfl); (case kF => k_asm); (case kN => k_asm); (case kB => k_asm); (case kX => k_asm); (case kT => k_asm); (case kk => first | exact rfl | assumption); (case kv => first | omega | exact Nat.le_trans (plainEnds_len (by omega)) (by decide))); intro hf' h' tk' F' N'; rotate_left; intro hf' z' t0' h' tk' F' N'; rotate_right)
  trivial
example : True := by
  k_with "call ref" => (k_here; (with_reducible show wpAny _ _ (call (Value.ref 98) _) _ _ _); k_dflt (refine' use (D := 860) (U := 1760) ?u1 ?u2 ?u3 ?u4 (S_ends ?kB ?kF ?kX ?kN ?kT ?kk ?kv ?_); (case u1 => exact rfl); (case u2 => exact rfl); (case u3 => exact Nat.le_of_ble_eq_true rfl); (case u4 => exact Nat.le_of_ble_eq_true rfl); (case kF => k_asm); (case kN => k_asm); (case kB => k_asm); (case kX => k_asm); (case kT => k_asm); (case kk => first | exact rfl | assumption); (case kv => omega)); intro t0' h' tk' F' N')
  trivial
example : True := by
  k_with "call ref" => (k_here; (with_reducible show wpAny _ _ (call (Value.ref 328) _) _ _ _); k_dflt (refine' use (D := 720) (U := 1620) ?u1 ?u2 ?u3 ?u4 (S_without ?kB ?kF ?kX ?kN ?kT ?kk ?kx ?kt ?kv ?_ ?_); (case u1 => exact rfl); (case u2 => exact rfl); (case u3 => exact Nat.le_of_ble_eq_true rfl); (case u4 => exact Nat.le_of_ble_eq_true rfl); (case kF => k_asm); (case kN => k_asm); (case kB => k_asm); (case kX => k_asm); (case kT => k_asm); (case kk => first | exact rfl | assumption); (case kx => assumption); (case kt => assumption); (case kv => omega)); intro v' hb' hl' t0' h' tk' F' N'; rotate_left; intro hb' g₂ e d c2 h' tk' F' R' U'; rotate_right)
  trivial
example : True := by
  k_with "call ref" => (k_here; (with_reducible show wpAny _ _ (call (Value.ref 148) _) _ _ _); k_dflt (refine' use (D := 880) (U := 1780) ?u1 ?u2 ?u3 ?u4 (S_entityFault ?kB ?kF ?kX ?kN ?kT ?kk ?_); (case u1 => exact rfl); (case u2 => exact rfl); (case u3 => exact Nat.le_of_ble_eq_true rfl); (case u4 => exact Nat.le_of_ble_eq_true rfl); (case kF => k_asm); (case kN => k_asm); (case kB => k_asm); (case kX => k_asm); (case kT => k_asm); (case kk => first | exact rfl | assumption)); intro e' t' d' h' tk' F' N' l1')
  trivial
example : True := by
  k_with "leaving ref" => (k_here; (with_reducible rename RaisedD _ _ _ _ _ _ _ _ _ _ => rdX); k_dflt (refine' leave_onD ?kK ?kF rdX ?kU ?_ ?kf; (case kf => exact rfl); (case kF => k_asm); (case kK => k_asm); (case kU => k_asm)); intro h' R' U')
  trivial
example : True := by
  k_with "exec Raise some none" => (k_here; k_dflt (refine' e_exec0 (C := 148) ?kh ?kX ?kK ?_; (case kh => rfl); (case kX => k_asm); (case kK => k_is)))
  trivial
section
variable {prog : Program} {w : World} {p : Program} {loose : List Str} {mean : ExcName → Option Value} {mg mb : Str → Option Value} {A₀ : Around} {base h₀ : Heap} {outer : List Env} {cn : Str} {cs : Scope} {ca L : Addr} {ccd : Value} {cl : List (Str × Addr)} {m : Str → Option Value} {rest : Led} {s : Shared} {Q E : Value → Shared → Prop}
variable {x dx : Addr} {T : Str} {k : Int} {h1 h2 : Int} {k1 t1 k2 t2 : Tok}
set_option maxRecDepth 100000 in
set_option maxHeartbeats 800000 in
theorem S_outer {V : Str} {tV : Tok} {A₀ : Around}
    (B : Below A₀ base outer h₀) (F : Fr h₀ L s.heap m) (X : (hd.heap_1_39 w.params).In h₀) (N : News h₀ L s.heap rest) (TT : Top p loose mean mg mb h₀) (hk : cs.kind = .function)
    (XB : (hd.heap_1_39 w.params).In base) (TB : Top p loose mean mg mb base) (hV : V.length ≤ 10000)
    (r1 : ∀ v, outerOf V = some v → ∀ t0 h' tk', Fr h₀ L h' m → News h₀ L h' rest → Q (.str v t0) { s with heap := h', toks := tk' })
    (rz : outerOf V = none → EFaults base h₀ L m (envX cn cs L ca ccd cl) outer rest E s) :
    wpAny (model prog w) (topAt 700 1600 none (envX cn cs L ca ccd cl) outer) (call (.ref 335) [.str V tV]) Q E s := by
  refine wpAny_call ?_
  k_dflt (refine' code_def ?k1 ?k2 ?k3 ?k4 ?k5 ?kA ?kF ?kK ?k6 ?k7 ?k8 ?k9 ?kB ?_ ?c2 ?c3 ?c4 ?c5; (case kA => exact rfl); (case kF => exact rfl); (case kK => first | exact rfl | assumption); (case k2 => k_asm); (case k1 => k_asm); (case k3 => k_asm); (case k4 => k_asm); (case k5 => k_asm); (case k6 => k_is); (case k7 => k_is); (case k8 => k_room); (case k9 => first | exact BindsTo.of_eq rfl | exact binds_K (by k_in) rfl (by k_is) rfl rfl rfl); (case c5 => decide); (case kB => exact locs rfl); (case c2 => exact rfl); (case c3 => exact rfl); (case c4 => exact rfl); k_whole; intro g' L' h' FG' F' N' B' X' T'; (try dsimp only); (try k_lift B'); (try k_fold))
  k_steps
  · rename bare _ = _ => q1
    rename firstOk _ = _ => q2
    exact r1 _ (outer_some (unmark_yes (by assumption)) q1 q2) _ _ _ (by k_asm) (by k_asm)
  · rename bare _ = _ => q1
    rename firstOk _ = _ => q2
    have hz := outer_none2 (V := V) (unmark_yes (by assumption)) q1 q2
    rename AllLt _ _ => l1'
    (with_reducible rename Below (topAt _ _ _ _ _) _ _ _ => B')
    (with_reducible rename Fr _ _ _ _ => F')
    (with_reducible rename News _ _ _ _ => N')
    refine ⟨_, _, _, rfl, Frag.In.keeps (by k_asm) (Fr.keep F'), N'.get (.head _), ?_⟩
    refine leave_raiseD (news := rest) B' F' N' (allLt_off l1') rfl rfl rfl (fun h' R u => rz hz _ _ _ _ _ _ (by k_asm) R u) rfl rfl
  · rename bare _ = _ => q1
    exact rz (outer_none1 (unmark_yes (by assumption)) q1) _ _ _ _ _ _ (by k_asm) (by assumption) (by assumption)
  · rename bare _ = _ => q1
    rename firstOk _ = _ => q2
    exact r1 _ (outer_some (unmark_no (by assumption)) q1 q2) _ _ _ (by k_asm) (by k_asm)
  · rename bare _ = _ => q1
    rename firstOk _ = _ => q2
    have hz := outer_none2 (V := V) (unmark_no (by assumption)) q1 q2
    rename AllLt _ _ => l1'
    (with_reducible rename Below (topAt _ _ _ _ _) _ _ _ => B')
    (with_reducible rename Fr _ _ _ _ => F')
    (with_reducible rename News _ _ _ _ => N')
    refine ⟨_, _, _, rfl, Frag.In.keeps (by k_asm) (Fr.keep F'), N'.get (.head _), ?_⟩
    refine leave_raiseD (news := rest) B' F' N' (allLt_off l1') rfl rfl rfl (fun h' R u => rz hz _ _ _ _ _ _ (by k_asm) R u) rfl rfl
  · rename bare _ = _ => q1
    exact rz (outer_none1 (unmark_no (by assumption)) q1) _ _ _ _ _ _ (by k_asm) (by assumption) (by assumption)
end


-- E1
example : True := by
  k_with_none
  trivial
example : True := by
  k_with "subscriptTail Name Constant ref int" => (k_here; with_unfolding_all refine' s_item ?k1 ?k2 ?k3 ?k4 ?k5 ?_ ?k6; (case k1 => k_asm); (case k2 => k_mem); (case k3 => decide); (case k4 => decide); (case k5 => rfl); (case k6 => with_unfolding_all rfl); k_whole)
  trivial
example : True := by
  k_with "binaryOp Mod int int" => (refine s_mod (by omega) ?_)
  trivial
example : True := by
  k_with "binaryOp FloorDiv int int" => (refine s_div (by omega) (by omega) ?_)
  trivial
example : True := by
  k_with "binaryOp Mult int int" => (refine s_mul (by omega) (by omega) ?_)
  trivial
example : True := by
  k_with "getMethod type:Exception" => (k_here; refine' method_type ?F ?X ?m (by decide +kernel) ?e ?h ?_; (case F => k_asm); (case X => k_asm); (case m => exact meta_Exception); (case e => k_dflt k_is); (case h => k_handed))
  trivial
example : True := by
  k_with "call builtin:Exception.__init__" => (k_here; k_dflt (refine' e_init ?kF ?kN ?kn ?kX ?kK ?kr ?_; (case kF => k_asm); (case kN => k_asm); (case kn => k_all); (case kX => k_in); (case kK => k_is); (case kr => simp [sizeLine_eq])); intro t' h' F' N' l1 l2; (k_lt2 l2); (replace l1 := allLt_of l1))
  trivial
example : True := by
  k_with "setAttr ref" => (k_here; k_dflt (refine' e_set_new ?kF ?kN ?kn ?kX ?k1 ?k2 ?k3 ?k4 ?kc ?kh ?km ?kr ?kt ?ks ?_; (case kF => k_asm); (case kN => first | k_asm | exact news_off (by k_asm)); (case kn => k_all); (case kX => k_in); (case k1 => rfl); (case k2 => rfl); (case k3 => rfl); (case k4 => rfl); (case kc => k_is); (case kh => rfl); (case km => k_is); (case kr => first | exact refuse136 _ | exact refuse148 _); (case kt => k_is); (case ks => k_is)); intro d' hs' ks' h' F' N' l3 l4; (k_lt2 l4); (replace l3 := allLt_of l3); (try (simp only [AllLt] at l3)); (try (obtain ⟨l5, l3⟩ := l3)); (try (obtain ⟨l6, l3⟩ := l3)))
  trivial
example : True := by
  k_with "setAttr ref" => (k_here; k_dflt (refine' e_set_old ?kF ?kN ?kg ?kn ?kX ?k1 ?k2 ?k3 ?kc ?kh ?km ?kr ?kt ?ks ?k5 ?ke ?k6 ?_; (case kF => k_asm); (case kN => exact news_swap (by k_asm)); (case kg => exact News.get (by k_asm) (.head _)); (case kn => k_all); (case kX => k_in); (case k1 => rfl); (case k2 => rfl); (case k3 => rfl); (case kc => k_is); (case kh => rfl); (case km => k_is); (case kr => first | exact refuse136 _ | exact refuse148 _); (case kt => k_is); (case ks => k_is); (case k5 => (rw [aRefKeyMayBeTheName_at, Bool.and_eq_false_iff]; right; simp [DictEntry.refKey])); (case ke => k_put); (case k6 => simp)); intro h' F' N')
  trivial
example : True := by
  k_with "exec Raise some none" => (k_here; k_dflt (refine' e_exec0 (C := 136) ?kh ?kX ?kK ?_; (case kh => rfl); (case kX => k_asm); (case kK => k_is)))
  trivial
section
variable {prog : Program} {w : World} {p : Program} {loose : List Str} {mean : ExcName → Option Value} {mg mb : Str → Option Value} {A₀ : Around} {base h₀ : Heap} {outer : List Env} {cn : Str} {cs : Scope} {ca L : Addr} {ccd : Value} {cl : List (Str × Addr)} {m : Str → Option Value} {rest : Led} {s : Shared} {Q E : Value → Shared → Prop}
set_option maxRecDepth 100000 in
set_option maxHeartbeats 4000000 in
theorem S_take {x : Addr} {a b top : Int} {ta tb tt : Tok} {n : Nat} {A₀ : Around}
    (B : Below A₀ base outer h₀) (F : Fr h₀ L s.heap m) (X : (hd.heap_1_39 w.params).In h₀) (N : News h₀ L s.heap ((x, listOf #[.int a ta, .int b tb] n) :: rest)) (TT : Top p loose mean mg mb h₀) (hk : cs.kind = .function)
    (hx : ∀ p ∈ rest, p.1 ≠ x) (ha : 0 ≤ a) (hb : 0 ≤ b) (hb2 : b ≤ 2147483647) (ht : 0 < top) (htt : top ≤ 1000)
    (ret : ∀ d t a' ta' b' tb' h' tk', 0 ≤ d → d < top → 0 ≤ a' → 0 ≤ b' → b' ≤ 2147483647 → Fr h₀ L h' m → News h₀ L h' ((x, listOf #[.int a' ta', .int b' tb'] n) :: rest) → Q (.int d t) { s with heap := h', toks := tk' }) :
    wpAny (model prog w) (topAt 880 1780 none (envX cn cs L ca ccd cl) outer) (call (.ref 349) [.ref x, .int top tt]) Q E s := by
  refine wpAny_call ?_
  k_dflt (refine' code_def ?k1 ?k2 ?k3 ?k4 ?k5 ?kA ?kF ?kK ?k6 ?k7 ?k8 ?k9 ?kB ?_ ?c2 ?c3 ?c4 ?c5; (case kA => exact rfl); (case kF => exact rfl); (case kK => first | exact rfl | assumption); (case k2 => k_asm); (case k1 => k_asm); (case k3 => k_asm); (case k4 => k_asm); (case k5 => k_asm); (case k6 => k_is); (case k7 => k_is); (case k8 => k_room); (case k9 => first | exact BindsTo.of_eq rfl | exact binds_K (by k_in) rfl (by k_is) rfl rfl rfl); (case c5 => decide); (case kB => exact locs rfl); (case c2 => exact rfl); (case c3 => exact rfl); (case c4 => exact rfl); k_whole; intro g' L' h' FG' F' N' B' X' T'; (try dsimp only); (try k_lift B'); (try k_fold))
  k_steps
  all_goals refine ret _ _ _ _ _ _ _ _ (Int.emod_nonneg _ (by omega)) (Int.emod_lt_of_pos _ ht) ?_ ?_ ?_ (by k_asm) (by k_asm)
  all_goals first | exact Int.ediv_nonneg ha (by omega) | omega
end


-- E2
example : True := by
  k_with_none
  trivial
example : True := by
  k_with "subscriptTail Name Constant ref int" => (k_here; with_unfolding_all refine' s_item ?k1 ?k2 ?k3 ?k4 ?k5 ?_ ?k6; (case k1 => k_asm); (case k2 => k_mem); (case k3 => decide); (case k4 => decide); (case k5 => rfl); (case k6 => with_unfolding_all rfl); k_whole)
  trivial
example : True := by
  k_with "binaryOp Mod int int" => (refine s_mod (by omega) ?_)
  trivial
example : True := by
  k_with "binaryOp FloorDiv int int" => (refine s_div (by omega) (by omega) ?_)
  trivial
example : True := by
  k_with "binaryOp Mult int int" => (refine s_mul (by omega) (by omega) ?_)
  trivial
example : True := by
  k_with "getMethod type:Exception" => (k_here; refine' method_type ?F ?X ?m (by decide +kernel) ?e ?h ?_; (case F => k_asm); (case X => k_asm); (case m => exact meta_Exception); (case e => k_dflt k_is); (case h => k_handed))
  trivial
example : True := by
  k_with "call builtin:Exception.__init__" => (k_here; k_dflt (refine' e_init ?kF ?kN ?kn ?kX ?kK ?kr ?_; (case kF => k_asm); (case kN => k_asm); (case kn => k_all); (case kX => k_in); (case kK => k_is); (case kr => simp [sizeLine_eq])); intro t' h' F' N' l1 l2; (k_lt2 l2); (replace l1 := allLt_of l1))
  trivial
example : True := by
  k_with "setAttr ref" => (k_here; k_dflt (refine' e_set_new ?kF ?kN ?kn ?kX ?k1 ?k2 ?k3 ?k4 ?kc ?kh ?km ?kr ?kt ?ks ?_; (case kF => k_asm); (case kN => first | k_asm | exact news_off (by k_asm)); (case kn => k_all); (case kX => k_in); (case k1 => rfl); (case k2 => rfl); (case k3 => rfl); (case k4 => rfl); (case kc => k_is); (case kh => rfl); (case km => k_is); (case kr => first | exact refuse136 _ | exact refuse148 _); (case kt => k_is); (case ks => k_is)); intro d' hs' ks' h' F' N' l3 l4; (k_lt2 l4); (replace l3 := allLt_of l3); (try (simp only [AllLt] at l3)); (try (obtain ⟨l5, l3⟩ := l3)); (try (obtain ⟨l6, l3⟩ := l3)))
  trivial
example : True := by
  k_with "setAttr ref" => (k_here; k_dflt (refine' e_set_old ?kF ?kN ?kg ?kn ?kX ?k1 ?k2 ?k3 ?kc ?kh ?km ?kr ?kt ?ks ?k5 ?ke ?k6 ?_; (case kF => k_asm); (case kN => exact news_swap (by k_asm)); (case kg => exact News.get (by k_asm) (.head _)); (case kn => k_all); (case kX => k_in); (case k1 => rfl); (case k2 => rfl); (case k3 => rfl); (case kc => k_is); (case kh => rfl); (case km => k_is); (case kr => first | exact refuse136 _ | exact refuse148 _); (case kt => k_is); (case ks => k_is); (case k5 => (rw [aRefKeyMayBeTheName_at, Bool.and_eq_false_iff]; right; simp [DictEntry.refKey])); (case ke => k_put); (case k6 => simp)); intro h' F' N')
  trivial
example : True := by
  k_with "exec Raise some none" => (k_here; k_dflt (refine' e_exec0 (C := 136) ?kh ?kX ?kK ?_; (case kh => rfl); (case kX => k_asm); (case kK => k_is)))
  trivial
section
variable {prog : Program} {w : World} {p : Program} {loose : List Str} {mean : ExcName → Option Value} {mg mb : Str → Option Value} {A₀ : Around} {base h₀ : Heap} {outer : List Env} {cn : Str} {cs : Scope} {ca L : Addr} {ccd : Value} {cl : List (Str × Addr)} {m : Str → Option Value} {rest : Led} {s : Shared} {Q E : Value → Shared → Prop}
example : True := by
  k_with "call ref" => (k_here; (with_reducible show wpAny _ _ (call (Value.ref 349) _) _ _ _); k_dflt (refine' use (D := 880) (U := 1780) ?u1 ?u2 ?u3 ?u4 (S_take ?kB ?kF ?kX ?kN ?kT ?kk ?kx ?ka ?kb ?kc ?kd ?ke ?_); (case u1 => exact rfl); (case u2 => exact rfl); (case u3 => exact Nat.le_of_ble_eq_true rfl); (case u4 => exact Nat.le_of_ble_eq_true rfl); (case kF => k_asm); (case kN => k_asm); (case kB => k_asm); (case kX => k_asm); (case kT => k_asm); (case kk => first | exact rfl | assumption); (case kx => k_all); (case ka => omega); (case kb => omega); (case kc => omega); (case kd => omega); (case ke => omega)); intro d' t' a' ta' b' tb' h' tk' hd0 hd1 ha0 hb0 hb1 F' N')
  trivial
example : True := by
  k_with "call builtin:len" => (k_here; (with_reducible show wpAny _ _ (call (Value.builtin "len") [Value.ref _]) _ _ _); refine s_len (by k_asm) (.tail _ (by assumption)) (by omega) ?_; intro _ _)
  trivial
example : True := by
  k_with "subscriptTail" => (k_here; (with_reducible show wpAny _ _ (subscriptTail _ _ (Value.ref _) (Value.int _ _)) _ _ _); refine s_pick (by k_asm) (.tail _ (by assumption)) (by omega) (by omega) (by omega) ?_ (by with_unfolding_all rfl); intro v hv)
  trivial
set_option maxRecDepth 100000 in
set_option maxHeartbeats 4000000 in
theorem S_one {x t : Addr} {a b : Int} {ta tb : Tok} {n n' : Nat} {vs : List Value} {A₀ : Around}
    (B : Below A₀ base outer h₀) (F : Fr h₀ L s.heap m) (X : (hd.heap_1_39 w.params).In h₀) (N : News h₀ L s.heap ((x, listOf #[.int a ta, .int b tb] n) :: rest)) (TT : Top p loose mean mg mb h₀) (hk : cs.kind = .function)
    (hx : ∀ p ∈ rest, p.1 ≠ x) (ht : (t, listOf vs.toArray n') ∈ rest) (hv0 : 0 < vs.length) (hv : vs.length ≤ 1000) (ha : 0 ≤ a) (hb : 0 ≤ b) (hb2 : b ≤ 2147483647)
    (ret : ∀ v ∈ vs, ∀ a' ta' b' tb' h' tk', 0 ≤ a' → 0 ≤ b' → b' ≤ 2147483647 → Fr h₀ L h' m → News h₀ L h' ((x, listOf #[.int a' ta', .int b' tb'] n) :: rest) → Q v { s with heap := h', toks := tk' }) :
    wpAny (model prog w) (topAt 860 1760 none (envX cn cs L ca ccd cl) outer) (call (.ref 356) [.ref x, .ref t]) Q E s := by
  refine wpAny_call ?_
  k_dflt (refine' code_def ?k1 ?k2 ?k3 ?k4 ?k5 ?kA ?kF ?kK ?k6 ?k7 ?k8 ?k9 ?kB ?_ ?c2 ?c3 ?c4 ?c5; (case kA => exact rfl); (case kF => exact rfl); (case kK => first | exact rfl | assumption); (case k2 => k_asm); (case k1 => k_asm); (case k3 => k_asm); (case k4 => k_asm); (case k5 => k_asm); (case k6 => k_is); (case k7 => k_is); (case k8 => k_room); (case k9 => first | exact BindsTo.of_eq rfl | exact binds_K (by k_in) rfl (by k_is) rfl rfl rfl); (case c5 => decide); (case kB => exact locs rfl); (case c2 => exact rfl); (case c3 => exact rfl); (case c4 => exact rfl); k_whole; intro g' L' h' FG' F' N' B' X' T'; (try dsimp only); (try k_lift B'); (try k_fold))
  k_steps
  refine ret _ (by assumption) _ _ _ _ _ _ ?_ ?_ ?_ (by k_asm) (by k_asm) <;> omega
end


-- E4
example : True := by
  k_with_none
  trivial
example : True := by
  k_with "subscriptTail Name Constant ref int" => (k_here; with_unfolding_all refine' s_item ?k1 ?k2 ?k3 ?k4 ?k5 ?_ ?k6; (case k1 => k_asm); (case k2 => k_mem); (case k3 => decide); (case k4 => decide); (case k5 => rfl); (case k6 => with_unfolding_all rfl); k_whole)
  trivial
example : True := by
  k_with "binaryOp Mod int int" => (refine s_mod (by omega) ?_)
  trivial
example : True := by
  k_with "binaryOp FloorDiv int int" => (refine s_div (by omega) (by omega) ?_)
  trivial
example : True := by
  k_with "binaryOp Mult int int" => (refine s_mul (by omega) (by omega) ?_)
  trivial
example : True := by
  k_with "getMethod type:Exception" => (k_here; refine' method_type ?F ?X ?m (by decide +kernel) ?e ?h ?_; (case F => k_asm); (case X => k_asm); (case m => exact meta_Exception); (case e => k_dflt k_is); (case h => k_handed))
  trivial
example : True := by
  k_with "call builtin:Exception.__init__" => (k_here; k_dflt (refine' e_init ?kF ?kN ?kn ?kX ?kK ?kr ?_; (case kF => k_asm); (case kN => k_asm); (case kn => k_all); (case kX => k_in); (case kK => k_is); (case kr => simp [sizeLine_eq])); intro t' h' F' N' l1 l2; (k_lt2 l2); (replace l1 := allLt_of l1))
  trivial
example : True := by
  k_with "setAttr ref" => (k_here; k_dflt (refine' e_set_new ?kF ?kN ?kn ?kX ?k1 ?k2 ?k3 ?k4 ?kc ?kh ?km ?kr ?kt ?ks ?_; (case kF => k_asm); (case kN => first | k_asm | exact news_off (by k_asm)); (case kn => k_all); (case kX => k_in); (case k1 => rfl); (case k2 => rfl); (case k3 => rfl); (case k4 => rfl); (case kc => k_is); (case kh => rfl); (case km => k_is); (case kr => first | exact refuse136 _ | exact refuse148 _); (case kt => k_is); (case ks => k_is)); intro d' hs' ks' h' F' N' l3 l4; (k_lt2 l4); (replace l3 := allLt_of l3); (try (simp only [AllLt] at l3)); (try (obtain ⟨l5, l3⟩ := l3)); (try (obtain ⟨l6, l3⟩ := l3)))
  trivial
example : True := by
  k_with "setAttr ref" => (k_here; k_dflt (refine' e_set_old ?kF ?kN ?kg ?kn ?kX ?k1 ?k2 ?k3 ?kc ?kh ?km ?kr ?kt ?ks ?k5 ?ke ?k6 ?_; (case kF => k_asm); (case kN => exact news_swap (by k_asm)); (case kg => exact News.get (by k_asm) (.head _)); (case kn => k_all); (case kX => k_in); (case k1 => rfl); (case k2 => rfl); (case k3 => rfl); (case kc => k_is); (case kh => rfl); (case km => k_is); (case kr => first | exact refuse136 _ | exact refuse148 _); (case kt => k_is); (case ks => k_is); (case k5 => (rw [aRefKeyMayBeTheName_at, Bool.and_eq_false_iff]; right; simp [DictEntry.refKey])); (case ke => k_put); (case k6 => simp)); intro h' F' N')
  trivial
example : True := by
  k_with "exec Raise some none" => (k_here; k_dflt (refine' e_exec0 (C := 136) ?kh ?kX ?kK ?_; (case kh => rfl); (case kX => k_asm); (case kK => k_is)))
  trivial
section
variable {prog : Program} {w : World} {p : Program} {loose : List Str} {mean : ExcName → Option Value} {mg mb : Str → Option Value} {A₀ : Around} {base h₀ : Heap} {outer : List Env} {cn : Str} {cs : Scope} {ca L : Addr} {ccd : Value} {cl : List (Str × Addr)} {m : Str → Option Value} {rest : Led} {s : Shared} {Q E : Value → Shared → Prop}
set_option maxRecDepth 100000 in
set_option maxHeartbeats 400000 in
theorem T_tups {A : Around} {env : Env} {xn : Str} {p1 p2 p3 : Pos} {k2 k3 : Nat} {scope : Scope} {cl0 : List (Str × Addr)} {ax : Addr} {its : Array Value} {kk : Nat} {news0 : Led} {bb : Bool} {ws : List Str} {Fin : List Value → Led → Prop}
    (X : (hd.heap_1_39 w.params).In h₀) (TT : Top p loose mean mg mb h₀)
    (hmem : (ax, ({ cls := .type "list", data := .seq its kk } : Obj)) ∈ news0) (hits : ∀ v ∈ its, ∃ wv tw, v = .str wv tw ∧ wv ∈ ws)
    (hkf : scope.kind = .function) (hlo : ∀ C, (compEnvC scope cl0 C env).kindOf xn = some .local) (hdb : (xn == ("__debug__" : Str)) = false)
    (hfin : ∀ ys ts, ys.length = its.size → (∀ y ∈ ys, ∃ t wv tw, y = Value.ref t ∧ (t, tupObj [.str wv tw, .bool bb]) ∈ ts ∧ wv ∈ ws) → (∀ p ∈ ts, ∀ q ∈ news0, q.1 < p.1) → Fin ys (news0 ++ ts)) :
    LCg.CompRest prog w A h₀ L m env (.Tuple [.Name xn p1, .Constant (.bool bb) k2 p2] k3 p3) xn scope cl0 s (LCg.SrcAt h₀ ax its) (fun i v => its[i]? = some v) Fin its.size 0 [] news0 := by
  refine rest_inv (fun i ys nx => ∃ ts, nx = news0 ++ ts ∧ ys.length = i ∧ (∀ y ∈ ys, ∃ t wv tw, y = Value.ref t ∧ (t, tupObj [.str wv tw, .bool bb]) ∈ ts ∧ wv ∈ ws) ∧ ∀ p ∈ ts, ∀ q ∈ news0, q.1 < p.1) its.size ?_ ?_ its.size 0 [] news0 (by omega) ⟨[], (List.append_nil _).symm, rfl, (fun y hy => nomatch hy), fun y hy => nomatch hy⟩
  · rintro i ys nx hi ⟨ts, rfl, hlen, hys, hfr⟩ v I oI C oC D m₂ h tk E' hv hC hx F N off ne
    obtain ⟨wv, tw, rfl, hw⟩ := hits v (Array.mem_of_getElem? hv)
    refine Tuple_ ?_
    walk1
    refine LCgL.ld_own N (.tail _ (.head _)) hC hx ?_ hkf (hlo C) hdb
    walk1
    walk1
    walk1
    refine kup_newTuple F N (fun t h' F' N' l1 => ?_) (by simp [sizeLine_eq])
    have o3 : LCg.Off3 I C D (news0 ++ (t, tupObj [.str wv tw, .bool bb]) :: ts) := LCg.Off3.of fun p hp => by
      rcases List.mem_append.mp hp with hp | hp
      · exact off.mem p (List.mem_append_left _ hp)
      · rcases List.mem_cons.mp hp with rfl | hp
        · exact ⟨Nat.ne_of_gt (l1 (I, oI) (.head _)), Nat.ne_of_gt (l1 (C, oC) (.tail _ (.head _))), Nat.ne_of_gt (l1 (D, LCg.lst ys) (.tail _ (.tail _ (.head _))))⟩
        · exact off.mem p (List.mem_append_right _ hp)
    refine LCg.CompEnd.intro F' N' (news0 ++ (t, tupObj [.str wv tw, .bool bb]) :: ts) (fun p hp => ?_) o3 (.inr ⟨_, List.mem_append_left _ hmem, rfl, _, rfl⟩)
      ⟨(t, tupObj [.str wv tw, .bool bb]) :: ts, rfl, by simp [hlen], fun y hy => ?_, fun p hp q hq => ?_⟩
    · rcases List.mem_cons.mp hp with rfl | hp
      · exact .tail _ (.head _)
      · rcases List.mem_cons.mp hp with rfl | hp
        · exact .tail _ (.tail _ (.head _))
        · rcases List.mem_cons.mp hp with rfl | hp
          · exact .tail _ (.tail _ (.tail _ (.head _)))
          · rcases List.mem_append.mp hp with hp | hp
            · exact .tail _ (.tail _ (.tail _ (.tail _ (List.mem_append_left _ hp))))
            · rcases List.mem_cons.mp hp with rfl | hp
              · exact .head _
              · exact .tail _ (.tail _ (.tail _ (.tail _ (List.mem_append_right _ hp))))
    · rcases List.mem_append.mp hy with hy | hy
      · obtain ⟨t', w', tw', e1, e2, e3⟩ := hys y hy
        exact ⟨t', w', tw', e1, .tail _ e2, e3⟩
      · rw [List.mem_singleton.mp hy]
        exact ⟨t, wv, tw, rfl, .head _, hw⟩
    · rcases List.mem_cons.mp hp with rfl | hp
      · exact l1 q (.tail _ (.tail _ (.tail _ (List.mem_append_left _ hq))))
      · exact hfr p hp q hq
  · rintro ys nx ⟨ts, rfl, hlen, hys, hfr⟩
    exact hfin ys ts hlen hys hfr
end


-- E6
example : True := by
  k_with_none
  trivial
example : True := by
  k_with "subscriptTail Name Constant ref int" => (k_here; with_unfolding_all refine' s_item ?k1 ?k2 ?k3 ?k4 ?k5 ?_ ?k6; (case k1 => k_asm); (case k2 => k_mem); (case k3 => decide); (case k4 => decide); (case k5 => rfl); (case k6 => with_unfolding_all rfl); k_whole)
  trivial
example : True := by
  k_with "binaryOp Mod int int" => (refine s_mod (by omega) ?_)
  trivial
example : True := by
  k_with "binaryOp FloorDiv int int" => (refine s_div (by omega) (by omega) ?_)
  trivial
example : True := by
  k_with "binaryOp Mult int int" => (refine s_mul (by omega) (by omega) ?_)
  trivial
example : True := by
  k_with "getMethod type:Exception" => (k_here; refine' method_type ?F ?X ?m (by decide +kernel) ?e ?h ?_; (case F => k_asm); (case X => k_asm); (case m => exact meta_Exception); (case e => k_dflt k_is); (case h => k_handed))
  trivial
example : True := by
  k_with "call builtin:Exception.__init__" => (k_here; k_dflt (refine' e_init ?kF ?kN ?kn ?kX ?kK ?kr ?_; (case kF => k_asm); (case kN => k_asm); (case kn => k_all); (case kX => k_in); (case kK => k_is); (case kr => simp [sizeLine_eq])); intro t' h' F' N' l1 l2; (k_lt2 l2); (replace l1 := allLt_of l1))
  trivial
example : True := by
  k_with "setAttr ref" => (k_here; k_dflt (refine' e_set_new ?kF ?kN ?kn ?kX ?k1 ?k2 ?k3 ?k4 ?kc ?kh ?km ?kr ?kt ?ks ?_; (case kF => k_asm); (case kN => first | k_asm | exact news_off (by k_asm)); (case kn => k_all); (case kX => k_in); (case k1 => rfl); (case k2 => rfl); (case k3 => rfl); (case k4 => rfl); (case kc => k_is); (case kh => rfl); (case km => k_is); (case kr => first | exact refuse136 _ | exact refuse148 _); (case kt => k_is); (case ks => k_is)); intro d' hs' ks' h' F' N' l3 l4; (k_lt2 l4); (replace l3 := allLt_of l3); (try (simp only [AllLt] at l3)); (try (obtain ⟨l5, l3⟩ := l3)); (try (obtain ⟨l6, l3⟩ := l3)))
  trivial
example : True := by
  k_with "setAttr ref" => (k_here; k_dflt (refine' e_set_old ?kF ?kN ?kg ?kn ?kX ?k1 ?k2 ?k3 ?kc ?kh ?km ?kr ?kt ?ks ?k5 ?ke ?k6 ?_; (case kF => k_asm); (case kN => exact news_swap (by k_asm)); (case kg => exact News.get (by k_asm) (.head _)); (case kn => k_all); (case kX => k_in); (case k1 => rfl); (case k2 => rfl); (case k3 => rfl); (case kc => k_is); (case kh => rfl); (case km => k_is); (case kr => first | exact refuse136 _ | exact refuse148 _); (case kt => k_is); (case ks => k_is); (case k5 => (rw [aRefKeyMayBeTheName_at, Bool.and_eq_false_iff]; right; simp [DictEntry.refKey])); (case ke => k_put); (case k6 => simp)); intro h' F' N')
  trivial
example : True := by
  k_with "exec Raise some none" => (k_here; k_dflt (refine' e_exec0 (C := 136) ?kh ?kX ?kK ?_; (case kh => rfl); (case kX => k_asm); (case kK => k_is)))
  trivial
section
variable {prog : Program} {w : World} {p : Program} {loose : List Str} {mean : ExcName → Option Value} {mg mb : Str → Option Value} {A₀ : Around} {base h₀ : Heap} {outer : List Env} {cn : Str} {cs : Scope} {ca L : Addr} {ccd : Value} {cl : List (Str × Addr)} {m : Str → Option Value} {rest : Led} {s : Shared} {Q E : Value → Shared → Prop}
set_option maxRecDepth 100000 in
set_option maxHeartbeats 4000000 in
theorem S_pick {x t : Addr} {a b : Int} {ta tb : Tok} {n n' : Nat} {vs : List Value} {A₀ : Around}
    (B : Below A₀ base outer h₀) (F : Fr h₀ L s.heap m) (X : (hd.heap_1_39 w.params).In h₀) (N : News h₀ L s.heap ((t, listOf vs.toArray n') :: (x, listOf #[.int a ta, .int b tb] n) :: rest)) (TT : Top p loose mean mg mb h₀) (hk : cs.kind = .function)
    (hxt : t ≠ x) (hx : ∀ p ∈ rest, p.1 ≠ x) (hv0 : 0 < vs.length) (hv : vs.length ≤ 1000) (hs : vs.all strV = true) (hl : (strsOf vs).all (fun w => decide (w.length ≤ 40)) = true) (ha : 0 ≤ a) (hb : 0 ≤ b) (hb2 : b ≤ 2147483647)
    (ret : ∀ w tw, w ∈ strsOf vs → w.length ≤ 40 → ∀ a' ta' b' tb' h' tk', 0 ≤ a' → 0 ≤ b' → b' ≤ 2147483647 → Fr h₀ L h' m → News h₀ L h' ((x, listOf #[.int a' ta', .int b' tb'] n) :: rest) → Q (.str w tw) { s with heap := h', toks := tk' }) :
    wpAny (model prog w) (topAt 860 1760 none (envX cn cs L ca ccd cl) outer) (call (.ref 356) [.ref x, .ref t]) Q E s := by
  refine S_one (vs := vs) (rest := (t, listOf vs.toArray n') :: rest) B F X (news_swap N) TT hk (List.forall_mem_cons.mpr ⟨hxt, hx⟩) (.head _) hv0 hv ha hb hb2 ?_
  intro v hv a' ta' b' tb' h' tk' h1 h2 h3 F' N'
  obtain ⟨w, tw, rfl, hw⟩ := strs_mem hv hs
  exact ret w tw hw (len_of_all hl hw) _ _ _ _ _ _ h1 h2 h3 F' (news_off (news_swap N'))
end


-- E7
example : True := by
  k_with_none
  trivial
example : True := by
  k_with "subscriptTail Name Constant ref int" => (k_here; with_unfolding_all refine' s_item ?k1 ?k2 ?k3 ?k4 ?k5 ?_ ?k6; (case k1 => k_asm); (case k2 => k_mem); (case k3 => decide); (case k4 => decide); (case k5 => rfl); (case k6 => with_unfolding_all rfl); k_whole)
  trivial
example : True := by
  k_with "binaryOp Mod int int" => (refine s_mod (by omega) ?_)
  trivial
example : True := by
  k_with "binaryOp FloorDiv int int" => (refine s_div (by omega) (by omega) ?_)
  trivial
example : True := by
  k_with "binaryOp Mult int int" => (refine s_mul (by omega) (by omega) ?_)
  trivial
example : True := by
  k_with "getMethod type:Exception" => (k_here; refine' method_type ?F ?X ?m (by decide +kernel) ?e ?h ?_; (case F => k_asm); (case X => k_asm); (case m => exact meta_Exception); (case e => k_dflt k_is); (case h => k_handed))
  trivial
example : True := by
  k_with "call builtin:Exception.__init__" => (k_here; k_dflt (refine' e_init ?kF ?kN ?kn ?kX ?kK ?kr ?_; (case kF => k_asm); (case kN => k_asm); (case kn => k_all); (case kX => k_in); (case kK => k_is); (case kr => simp [sizeLine_eq])); intro t' h' F' N' l1 l2; (k_lt2 l2); (replace l1 := allLt_of l1))
  trivial
example : True := by
  k_with "setAttr ref" => (k_here; k_dflt (refine' e_set_new ?kF ?kN ?kn ?kX ?k1 ?k2 ?k3 ?k4 ?kc ?kh ?km ?kr ?kt ?ks ?_; (case kF => k_asm); (case kN => first | k_asm | exact news_off (by k_asm)); (case kn => k_all); (case kX => k_in); (case k1 => rfl); (case k2 => rfl); (case k3 => rfl); (case k4 => rfl); (case kc => k_is); (case kh => rfl); (case km => k_is); (case kr => first | exact refuse136 _ | exact refuse148 _); (case kt => k_is); (case ks => k_is)); intro d' hs' ks' h' F' N' l3 l4; (k_lt2 l4); (replace l3 := allLt_of l3); (try (simp only [AllLt] at l3)); (try (obtain ⟨l5, l3⟩ := l3)); (try (obtain ⟨l6, l3⟩ := l3)))
  trivial
example : True := by
  k_with "setAttr ref" => (k_here; k_dflt (refine' e_set_old ?kF ?kN ?kg ?kn ?kX ?k1 ?k2 ?k3 ?kc ?kh ?km ?kr ?kt ?ks ?k5 ?ke ?k6 ?_; (case kF => k_asm); (case kN => exact news_swap (by k_asm)); (case kg => exact News.get (by k_asm) (.head _)); (case kn => k_all); (case kX => k_in); (case k1 => rfl); (case k2 => rfl); (case k3 => rfl); (case kc => k_is); (case kh => rfl); (case km => k_is); (case kr => first | exact refuse136 _ | exact refuse148 _); (case kt => k_is); (case ks => k_is); (case k5 => (rw [aRefKeyMayBeTheName_at, Bool.and_eq_false_iff]; right; simp [DictEntry.refKey])); (case ke => k_put); (case k6 => simp)); intro h' F' N')
  trivial
example : True := by
  k_with "exec Raise some none" => (k_here; k_dflt (refine' e_exec0 (C := 136) ?kh ?kX ?kK ?_; (case kh => rfl); (case kX => k_asm); (case kK => k_is)))
  trivial
section
variable {prog : Program} {w : World} {p : Program} {loose : List Str} {mean : ExcName → Option Value} {mg mb : Str → Option Value} {A₀ : Around} {base h₀ : Heap} {outer : List Env} {cn : Str} {cs : Scope} {ca L : Addr} {ccd : Value} {cl : List (Str × Addr)} {m : Str → Option Value} {rest : Led} {s : Shared} {Q E : Value → Shared → Prop}
example : True := by
  k_with "CompRest" => (refine held ?_)
  trivial
example : True := by
  k_with "call ref" => (k_here; (with_reducible show wpAny _ _ (call (Value.ref 356) _) _ _ _); refine held ?_)
  trivial
example : True := by
  k_with "call ref" => (k_here; (with_reducible show wpAny _ _ (call (Value.ref 356) _) _ _ _); k_dflt (refine' use (D := 860) (U := 1760) ?u1 ?u2 ?u3 ?u4 (S_pick ?kB ?kF ?kX ?kN ?kT ?kk ?kt ?kx ?v0 ?v1 ?v2 ?v3 ?ka ?kb ?kc ?_); (case u1 => exact rfl); (case u2 => exact rfl); (case u3 => exact Nat.le_of_ble_eq_true rfl); (case u4 => exact Nat.le_of_ble_eq_true rfl); (case kF => k_asm); (case kN => k_asm); (case kB => k_asm); (case kX => k_asm); (case kT => k_asm); (case kk => first | exact rfl | assumption); (case kt => k_ne); (case kx => k_all); (case v0 => exact Nat.zero_lt_succ _); (case v1 => exact Nat.le_of_ble_eq_true rfl); (case v2 => exact rfl); (case v3 => exact rfl); (case ka => assumption); (case kb => assumption); (case kc => assumption)); intro w' tw' hw' hwl' a' ta' b' tb' h' tk' ha0 hb0 hb1 F' N'; (try simp only [strsOf] at hw'))
  trivial
example : True := by
  k_with "call ref" => (k_here; (with_reducible show wpAny _ _ (call (Value.ref 349) _) _ _ _); k_dflt (refine' use (D := 880) (U := 1780) ?u1 ?u2 ?u3 ?u4 (S_take ?kB ?kF ?kX ?kN ?kT ?kk ?kx ?ka ?kb ?kc ?kd ?ke ?_); (case u1 => exact rfl); (case u2 => exact rfl); (case u3 => exact Nat.le_of_ble_eq_true rfl); (case u4 => exact Nat.le_of_ble_eq_true rfl); (case kF => k_asm); (case kN => first | k_asm | exact news_swap (by k_asm)); (case kB => k_asm); (case kX => k_asm); (case kT => k_asm); (case kk => first | exact rfl | assumption); (case kx => k_all); (case ka => omega); (case kb => omega); (case kc => omega); (case kd => omega); (case ke => omega)); intro d' t' a' ta' b' tb' h' tk' hd0 hd1 ha0 hb0 hb1 F' N')
  trivial
set_option maxRecDepth 100000 in
set_option maxHeartbeats 4000000 in
theorem S_worded {x r q : Addr} {a b : Int} {ta tb tW o1 o2 o3 q1 q2 q3 q4 q5 : Tok} {n n1 n2 : Nat} {W R1 R2 R3 Q1 Q2 Q3 Q4 Q5 : Str} {A₀ : Around}
    (B : Below A₀ base outer h₀) (F : Fr h₀ L s.heap m) (X : (hd.heap_1_39 w.params).In h₀) (N : News h₀ L s.heap [(x, listOf #[.int a ta, .int b tb] n), (r, listOf #[.str R1 o1, .str R2 o2, .str R3 o3] n1), (q, listOf #[.str Q1 q1, .str Q2 q2, .str Q3 q3, .str Q4 q4, .str Q5 q5] n2)]) (TT : Top p loose mean mg mb h₀) (hk : cs.kind = .function)
    (Nr : News h₀ L s.heap rest) (hoff : ∀ p ∈ rest, p.1 ∉ [x, r, q]) (hxr : r ≠ x) (hxq : q ≠ x) (ha : 0 ≤ a) (hb : 0 ≤ b) (hb2 : b ≤ 2147483647)
    (hW : W.length ≤ 40) (hR : ∀ v ∈ [R1, R2, R3], v.length ≤ 40) (hQ : ∀ v ∈ [Q1, Q2, Q3, Q4, Q5], v.length ≤ 40)
    (ret : ∀ z u told ok a' ta' b' tb' h' tk', Told W [R1, R2, R3] [Q1, Q2, Q3, Q4, Q5] told ok → told.length ≤ 300 → 0 ≤ a' → 0 ≤ b' → b' ≤ 2147483647 → Fr h₀ L h' m → News h₀ L h' ((z, tupObj [.str told u, .bool ok]) :: (x, listOf #[.int a' ta', .int b' tb'] n) :: rest) → z ≠ x → Q (.ref z) { s with heap := h', toks := tk' }) :
    wpAny (model prog w) (topAt 840 1740 none (envX cn cs L ca ccd cl) outer) (call (.ref 361) [.ref x, .str W tW, .ref r, .ref q]) Q E s := by
  refine wpAny_call ?_
  k_dflt (refine' enterG ?k1 ?k2 ?k3 ?k4 ?kr ?ko ?k5 ?kA ?kF ?kK ?k6 ?k7 ?k8 ?k9 ?kB ?_ ?c2 ?c3 ?c4 ?c5; (case kA => exact rfl); (case kF => exact rfl); (case kK => first | exact rfl | assumption); (case k2 => k_asm); (case k1 => k_asm); (case k3 => k_asm); (case k4 => exact N); (case kr => exact Nr); (case ko => assumption); (case k5 => k_asm); (case k6 => k_is); (case k7 => k_is); (case k8 => k_room); (case k9 => first | exact BindsTo.of_eq rfl | exact binds_K (by k_in) rfl (by k_is) rfl rfl rfl); (case c5 => decide); (case kB => exact locs rfl); (case c2 => exact rfl); (case c3 => exact rfl); (case c4 => exact rfl); k_whole; intro g' L' h' FG' F' N' B' X' T'; (try dsimp only); (try k_lift B'); (try k_fold))
  k_steps
  refine held' ?_
  with_unfolding_all refine' T_tups (ws := [R1, R2, R3]) ?kX ?kT ?km ?kh rfl (fun C => rfl) ?kd ?_
  case kX => k_asm
  case kT => k_asm
  case km => k_mem
  case kh => simp
  case kd => decide
  intro ys1 ts1 hlen1 hys1 hfr1
  simp only [List.cons_append, List.nil_append] at hfr1 ⊢
  k_steps
  refine held' ?_
  with_unfolding_all refine' T_tups (ws := [Q1, Q2, Q3, Q4, Q5]) ?kX ?kT ?km ?kh rfl (fun C => rfl) ?kd ?_
  case kX => k_asm
  case kT => k_asm
  case km => k_mem
  case kh => simp
  case kd => decide
  intro ys2 ts2 hlen2 hys2 hfr2
  simp only [List.cons_append, List.nil_append] at hfr2 ⊢
  k_steps
  (with_reducible rename News _ _ _ _ => N1)
  refine held' ?_
  k_dflt refine' use (D := 860) (U := 1760) ?u1 ?u2 ?u3 ?u4 (S_one (vs := ys1 ++ ys2) (n' := 0) (rest := (_, listOf (ys1 ++ ys2).toArray 0) :: (ts1 ++ ts2)) ?kB ?kF ?kX (cb_drop N1 ?kd) ?kT ?kk ?hx (.head _) ?v0 ?v1 ?ka ?kb ?kc ?_)
  case u1 => exact rfl
  case u2 => exact rfl
  case u3 => exact Nat.le_of_ble_eq_true rfl
  case u4 => exact Nat.le_of_ble_eq_true rfl
  case kB => k_asm
  case kF => k_asm
  case kX => k_asm
  case kT => k_asm
  case kk => first | exact rfl | assumption
  case ka => exact ha
  case kb => exact hb
  case kc => exact hb2
  case v0 => have e6 : ys1.length = 6 := hlen1; rw [List.length_append]; omega
  case v1 => have e6 : ys1.length = 6 := hlen1; have e5 : ys2.length = 5 := hlen2; rw [List.length_append]; omega
  case kd => kcj_all
  case hx =>
    refine List.forall_mem_cons.mpr ⟨?_, fun p hp => ?_⟩
    · exact Nat.ne_of_gt (Heap.lt_size ((by assumption : News _ _ _ ((_, LCg.lst ys2) :: _)) (x, _) (by k_mem)).1)
    · rcases List.mem_append.mp hp with hp | hp
      · exact Nat.ne_of_gt (hfr1 p hp (x, _) (.tail _ (.head _)))
      · exact Nat.ne_of_gt (hfr2 p hp (x, _) (.tail _ (.tail _ (.head _))))
  intro v hv a1 ta1 b1 tb1 h1' tk1' ha1 hb1 hb1' F1 N1'
  obtain ⟨t1, wv, tw, bb, rfl, hm, hw⟩ : ∃ t wv tw bb, v = Value.ref t ∧ (t, tupObj [.str wv tw, .bool bb]) ∈ ts1 ++ ts2 ∧ ((wv ∈ [R1, R2, R3] ∧ bb = true) ∨ (wv ∈ [Q1, Q2, Q3, Q4, Q5] ∧ bb = false)) := by
    rcases List.mem_append.mp hv with hv | hv
    · obtain ⟨t, wv, tw, e1, e2, e3⟩ := hys1 v hv
      exact ⟨t, wv, tw, true, e1, List.mem_append_left _ e2, .inl ⟨e3, rfl⟩⟩
    · obtain ⟨t, wv, tw, e1, e2, e3⟩ := hys2 v hv
      exact ⟨t, wv, tw, false, e1, List.mem_append_right _ e2, .inr ⟨e3, rfl⟩⟩
  have N2 := cb_drop (news := [(x, listOf #[.int a1 ta1, .int b1 tb1] n), (t1, tupObj [.str wv tw, .bool bb])]) N1' (List.forall_mem_cons.mpr ⟨.head _, List.forall_mem_cons.mpr ⟨.tail _ (.tail _ hm), List.forall_mem_nil _⟩⟩)
  have hl1 : @LT.lt Nat instLTNat x t1 := by
    rcases List.mem_append.mp hm with hp | hp
    · exact hfr1 _ hp (x, _) (.tail _ (.head _))
    · exact hfr2 _ hp (x, _) (.tail _ (.tail _ (.head _)))
  have hwl : wv.length ≤ 40 := hw.elim (fun q => hR _ q.1) (fun q => hQ _ q.1)
  replace ha := ha1
  replace hb := hb1
  replace hb2 := hb1'
  clear N1' N1 hv hm hfr1 hfr2 hys1 hys2 hlen1 hlen2
  k_steps
  all_goals (
    (with_reducible rename News h₀ L _ rest => NR)
    (with_reducible rename News h₀ L _ (_ :: _) => NX)
    have N2 := news_two (q := (x, listOf #[.int _ _, .int _ _] n)) NX (by repeat (first | exact List.Mem.head _ | apply List.Mem.tail))
    have e1 : (Str.ofString "=").length = 1 := rfl
    have e0 : (Str.ofString "").length = 0 := rfl
    k_dflt exact ret _ _ _ _ _ _ _ _ _ _ (by with_reducible (first | exact told_b (by assumption) (by assumption) hw | exact told_a (by assumption) (by assumption) hw))
      (by simp only [Str.length_append]; omega) (by omega) (by omega) (by omega) (by k_asm) (news_app (a := [_, _]) N2 NR) (by k_ne))
end


-- E8
example : True := by
  k_with_none
  trivial
example : True := by
  k_with "subscriptTail Name Constant ref int" => (k_here; with_unfolding_all refine' s_item ?k1 ?k2 ?k3 ?k4 ?k5 ?_ ?k6; (case k1 => k_asm); (case k2 => k_mem); (case k3 => decide); (case k4 => decide); (case k5 => rfl); (case k6 => with_unfolding_all rfl); k_whole)
  trivial
example : True := by
  k_with "binaryOp Mod int int" => (refine s_mod (by omega) ?_)
  trivial
example : True := by
  k_with "binaryOp FloorDiv int int" => (refine s_div (by omega) (by omega) ?_)
  trivial
example : True := by
  k_with "binaryOp Mult int int" => (refine s_mul (by omega) (by omega) ?_)
  trivial
example : True := by
  k_with "getMethod type:Exception" => (k_here; refine' method_type ?F ?X ?m (by decide +kernel) ?e ?h ?_; (case F => k_asm); (case X => k_asm); (case m => exact meta_Exception); (case e => k_dflt k_is); (case h => k_handed))
  trivial
example : True := by
  k_with "call builtin:Exception.__init__" => (k_here; k_dflt (refine' e_init ?kF ?kN ?kn ?kX ?kK ?kr ?_; (case kF => k_asm); (case kN => k_asm); (case kn => k_all); (case kX => k_in); (case kK => k_is); (case kr => simp [sizeLine_eq])); intro t' h' F' N' l1 l2; (k_lt2 l2); (replace l1 := allLt_of l1))
  trivial
example : True := by
  k_with "setAttr ref" => (k_here; k_dflt (refine' e_set_new ?kF ?kN ?kn ?kX ?k1 ?k2 ?k3 ?k4 ?kc ?kh ?km ?kr ?kt ?ks ?_; (case kF => k_asm); (case kN => first | k_asm | exact news_off (by k_asm)); (case kn => k_all); (case kX => k_in); (case k1 => rfl); (case k2 => rfl); (case k3 => rfl); (case k4 => rfl); (case kc => k_is); (case kh => rfl); (case km => k_is); (case kr => first | exact refuse136 _ | exact refuse148 _); (case kt => k_is); (case ks => k_is)); intro d' hs' ks' h' F' N' l3 l4; (k_lt2 l4); (replace l3 := allLt_of l3); (try (simp only [AllLt] at l3)); (try (obtain ⟨l5, l3⟩ := l3)); (try (obtain ⟨l6, l3⟩ := l3)))
  trivial
example : True := by
  k_with "setAttr ref" => (k_here; k_dflt (refine' e_set_old ?kF ?kN ?kg ?kn ?kX ?k1 ?k2 ?k3 ?kc ?kh ?km ?kr ?kt ?ks ?k5 ?ke ?k6 ?_; (case kF => k_asm); (case kN => exact news_swap (by k_asm)); (case kg => exact News.get (by k_asm) (.head _)); (case kn => k_all); (case kX => k_in); (case k1 => rfl); (case k2 => rfl); (case k3 => rfl); (case kc => k_is); (case kh => rfl); (case km => k_is); (case kr => first | exact refuse136 _ | exact refuse148 _); (case kt => k_is); (case ks => k_is); (case k5 => (rw [aRefKeyMayBeTheName_at, Bool.and_eq_false_iff]; right; simp [DictEntry.refKey])); (case ke => k_put); (case k6 => simp)); intro h' F' N')
  trivial
example : True := by
  k_with "exec Raise some none" => (k_here; k_dflt (refine' e_exec0 (C := 136) ?kh ?kX ?kK ?_; (case kh => rfl); (case kX => k_asm); (case kK => k_is)))
  trivial
section
variable {prog : Program} {w : World} {p : Program} {loose : List Str} {mean : ExcName → Option Value} {mg mb : Str → Option Value} {A₀ : Around} {base h₀ : Heap} {outer : List Env} {cn : Str} {cs : Scope} {ca L : Addr} {ccd : Value} {cl : List (Str × Addr)} {m : Str → Option Value} {rest : Led} {s : Shared} {Q E : Value → Shared → Prop}
example : True := by
  k_with "call ref" => (k_here; (with_reducible show wpAny _ _ (call (Value.ref 356) _) _ _ _); refine held ?_)
  trivial
example : True := by
  k_with "call ref" => (k_here; (with_reducible show wpAny _ _ (call (Value.ref 349) _) _ _ _); refine held ?_)
  trivial
example : True := by
  k_with "call ref" => (k_here; (with_reducible show wpAny _ _ (call (Value.ref 361) _) _ _ _); refine held ?_)
  trivial
example : True := by
  k_with "call ref" => (k_here; (with_reducible show wpAny _ _ (call (Value.ref 356) _) _ _ _); k_dflt (refine' use (D := 860) (U := 1760) ?u1 ?u2 ?u3 ?u4 (S_pick ?kB ?kF ?kX ?kN ?kT ?kk ?kt ?kx ?v0 ?v1 ?v2 ?v3 ?ka ?kb ?kc ?_); (case u1 => exact rfl); (case u2 => exact rfl); (case u3 => exact Nat.le_of_ble_eq_true rfl); (case u4 => exact Nat.le_of_ble_eq_true rfl); (case kF => k_asm); (case kN => first | k_asm | exact news_pair (by k_asm) (by repeat (first | exact List.Mem.head _ | apply List.Mem.tail)) (by repeat (first | exact List.Mem.head _ | apply List.Mem.tail))); (case kB => k_asm); (case kX => k_asm); (case kT => k_asm); (case kk => first | exact rfl | assumption); (case kt => k_ne); (case kx => k_all); (case v0 => exact Nat.zero_lt_succ _); (case v1 => exact Nat.le_of_ble_eq_true rfl); (case v2 => exact rfl); (case v3 => exact rfl); (case ka => assumption); (case kb => assumption); (case kc => assumption)); intro w' tw' hw' hwl' a' ta' b' tb' h' tk' ha0 hb0 hb1 F' N'; (try simp only [strsOf] at hw'))
  trivial
example : True := by
  k_with "call ref" => (k_here; (with_reducible show wpAny _ _ (call (Value.ref 349) _) _ _ _); k_dflt (refine' use (D := 880) (U := 1780) ?u1 ?u2 ?u3 ?u4 (S_take ?kB ?kF ?kX ?kN ?kT ?kk ?kx ?ka ?kb ?kc ?kd ?ke ?_); (case u1 => exact rfl); (case u2 => exact rfl); (case u3 => exact Nat.le_of_ble_eq_true rfl); (case u4 => exact Nat.le_of_ble_eq_true rfl); (case kF => k_asm); (case kN => first | k_asm | exact news_swap (by k_asm)); (case kB => k_asm); (case kX => k_asm); (case kT => k_asm); (case kk => first | exact rfl | assumption); (case kx => k_all); (case ka => omega); (case kb => omega); (case kc => omega); (case kd => omega); (case ke => omega)); intro d' t' a' ta' b' tb' h' tk' hd0 hd1 ha0 hb0 hb1 F' N')
  trivial
example : True := by
  k_with "call ref" => (k_here; (with_reducible show wpAny _ _ (call (Value.ref 361) _) _ _ _); k_dflt (refine' use (D := 840) (U := 1740) ?u1 ?u2 ?u3 ?u4 (S_worded (rest := []) ?kB ?kF ?kX ?kN ?kT ?kk news_nil ?ko ?k1 ?k2 ?ka ?kb ?kc ?kw ?kr ?kq ?_); (case u1 => exact rfl); (case u2 => exact rfl); (case u3 => exact Nat.le_of_ble_eq_true rfl); (case u4 => exact Nat.le_of_ble_eq_true rfl); (case kF => k_asm); (case kN => exact news_three (by k_asm) (by repeat (first | exact List.Mem.head _ | apply List.Mem.tail)) (by repeat (first | exact List.Mem.head _ | apply List.Mem.tail)) (by repeat (first | exact List.Mem.head _ | apply List.Mem.tail))); (case kB => k_asm); (case kX => k_asm); (case kT => k_asm); (case kk => first | exact rfl | assumption); (case ko => exact fun _ hp => nomatch hp); (case k1 => k_ne); (case k2 => k_ne); (case ka => omega); (case kb => omega); (case kc => omega); (case kw => decide); (case kr => decide); (case kq => decide)); intro z' u' t0' ok' a' ta' b' tb' h' tk' ht' htl' ha0 hb0 hb1 F' N' hzx')
  trivial
set_option maxRecDepth 100000 in
set_option maxHeartbeats 4000000 in
theorem S_head {x : Addr} {a b : Int} {ta tb : Tok} {n : Nat} {A₀ : Around}
    (B : Below A₀ base outer h₀) (F : Fr h₀ L s.heap m) (X : (hd.heap_1_39 w.params).In h₀) (N : News h₀ L s.heap [(x, listOf #[.int a ta, .int b tb] n)]) (TT : Top p loose mean mg mb h₀) (hk : cs.kind = .function)
    (Nr : News h₀ L s.heap rest) (hoff : ∀ p ∈ rest, p.1 ∉ [x]) (ha : 0 ≤ a) (hb : 0 ≤ b) (hb2 : b ≤ 2147483647)
    (ret : ∀ z u told ok a' ta' b' tb' h' tk', HeadOf told ok → told.length ≤ 1000 → 0 ≤ a' → 0 ≤ b' → b' ≤ 2147483647 → Fr h₀ L h' m → News h₀ L h' ((z, tupObj [.str told u, .bool ok]) :: (x, listOf #[.int a' ta', .int b' tb'] n) :: rest) → z ≠ x → Q (.ref z) { s with heap := h', toks := tk' }) :
    wpAny (model prog w) (topAt 820 1720 none (envX cn cs L ca ccd cl) outer) (call (.ref 368) [.ref x]) Q E s := by
  refine wpAny_call ?_
  k_dflt (refine' enterG ?k1 ?k2 ?k3 ?k4 ?kr ?ko ?k5 ?kA ?kF ?kK ?k6 ?k7 ?k8 ?k9 ?kB ?_ ?c2 ?c3 ?c4 ?c5; (case kA => exact rfl); (case kF => exact rfl); (case kK => first | exact rfl | assumption); (case k2 => k_asm); (case k1 => k_asm); (case k3 => k_asm); (case k4 => exact N); (case kr => exact Nr); (case ko => assumption); (case k5 => k_asm); (case k6 => k_is); (case k7 => k_is); (case k8 => k_room); (case k9 => first | exact BindsTo.of_eq rfl | exact binds_K (by k_in) rfl (by k_is) rfl rfl rfl); (case c5 => decide); (case kB => exact locs rfl); (case c2 => exact rfl); (case c3 => exact rfl); (case c4 => exact rfl); k_whole; intro g' L' h' FG' F' N' B' X' T'; (try dsimp only); (try k_lift B'); (try k_fold))
  k_steps
  all_goals (
    (with_reducible rename News h₀ L _ rest => NR)
    (with_reducible rename News h₀ L _ (_ :: _) => NX)
    have N2 := news_two (q := (x, listOf #[.int _ _, .int _ _] n)) NX (by repeat (first | exact List.Mem.head _ | apply List.Mem.tail))
    have e0 : (Str.ofString "").length = 0 := rfl
    k_dflt exact ret _ _ _ _ _ _ _ _ _ _ (by with_reducible (first
      | exact hd1t (by assumption) (by assumption) (by assumption) (by assumption)
      | exact hd2f (by assumption) (by assumption) (by first | rfl | assumption)
      | exact hd1f (by assumption) (by assumption) (by assumption) (by assumption) (by first | rfl | assumption)
      | exact hd3t (by assumption) (by assumption) (by assumption) (by assumption) (by assumption) (by assumption) (by assumption) (by assumption)
      | exact hd4f (by assumption) (by assumption) (by assumption) (by assumption) (by first | rfl | assumption)
      | exact hd3f (by assumption) (by assumption) (by assumption) (by assumption) (by assumption) (by first | exact .inl (by assumption) | exact .inr (.inl (by assumption)) | exact .inr (.inr (by assumption))) (by first | rfl | assumption)))
      (by simp only [Str.length_append]; omega) (by omega) (by omega) (by omega) (by k_asm) (news_app (a := [_, _]) N2 NR) (by k_ne))
end


-- E9
example : True := by
  k_with_none
  trivial
example : True := by
  k_with "subscriptTail Name Constant ref int" => (k_here; with_unfolding_all refine' s_item ?k1 ?k2 ?k3 ?k4 ?k5 ?_ ?k6; (case k1 => k_asm); (case k2 => k_mem); (case k3 => decide); (case k4 => decide); (case k5 => rfl); (case k6 => with_unfolding_all rfl); k_whole)
  trivial
example : True := by
  k_with "binaryOp Mod int int" => (refine s_mod (by omega) ?_)
  trivial
example : True := by
  k_with "binaryOp FloorDiv int int" => (refine s_div (by omega) (by omega) ?_)
  trivial
example : True := by
  k_with "binaryOp Mult int int" => (refine s_mul (by omega) (by omega) ?_)
  trivial
example : True := by
  k_with "getMethod type:Exception" => (k_here; refine' method_type ?F ?X ?m (by decide +kernel) ?e ?h ?_; (case F => k_asm); (case X => k_asm); (case m => exact meta_Exception); (case e => k_dflt k_is); (case h => k_handed))
  trivial
example : True := by
  k_with "call builtin:Exception.__init__" => (k_here; k_dflt (refine' e_init ?kF ?kN ?kn ?kX ?kK ?kr ?_; (case kF => k_asm); (case kN => k_asm); (case kn => k_all); (case kX => k_in); (case kK => k_is); (case kr => simp [sizeLine_eq])); intro t' h' F' N' l1 l2; (k_lt2 l2); (replace l1 := allLt_of l1))
  trivial
example : True := by
  k_with "setAttr ref" => (k_here; k_dflt (refine' e_set_new ?kF ?kN ?kn ?kX ?k1 ?k2 ?k3 ?k4 ?kc ?kh ?km ?kr ?kt ?ks ?_; (case kF => k_asm); (case kN => first | k_asm | exact news_off (by k_asm)); (case kn => k_all); (case kX => k_in); (case k1 => rfl); (case k2 => rfl); (case k3 => rfl); (case k4 => rfl); (case kc => k_is); (case kh => rfl); (case km => k_is); (case kr => first | exact refuse136 _ | exact refuse148 _); (case kt => k_is); (case ks => k_is)); intro d' hs' ks' h' F' N' l3 l4; (k_lt2 l4); (replace l3 := allLt_of l3); (try (simp only [AllLt] at l3)); (try (obtain ⟨l5, l3⟩ := l3)); (try (obtain ⟨l6, l3⟩ := l3)))
  trivial
example : True := by
  k_with "setAttr ref" => (k_here; k_dflt (refine' e_set_old ?kF ?kN ?kg ?kn ?kX ?k1 ?k2 ?k3 ?kc ?kh ?km ?kr ?kt ?ks ?k5 ?ke ?k6 ?_; (case kF => k_asm); (case kN => exact news_swap (by k_asm)); (case kg => exact News.get (by k_asm) (.head _)); (case kn => k_all); (case kX => k_in); (case k1 => rfl); (case k2 => rfl); (case k3 => rfl); (case kc => k_is); (case kh => rfl); (case km => k_is); (case kr => first | exact refuse136 _ | exact refuse148 _); (case kt => k_is); (case ks => k_is); (case k5 => (rw [aRefKeyMayBeTheName_at, Bool.and_eq_false_iff]; right; simp [DictEntry.refKey])); (case ke => k_put); (case k6 => simp)); intro h' F' N')
  trivial
example : True := by
  k_with "exec Raise some none" => (k_here; k_dflt (refine' e_exec0 (C := 136) ?kh ?kX ?kK ?_; (case kh => rfl); (case kX => k_asm); (case kK => k_is)))
  trivial
example : True := by
  k_with "call ref" => (k_here; (with_reducible show wpAny _ _ (call (Value.ref 321) _) _ _ _); refine held ?_)
  trivial
example : True := by
  k_with "call ref" => (k_here; (with_reducible show wpAny _ _ (call (Value.ref 321) _) _ _ _); k_dflt (refine' use (D := 740) (U := 1640) ?u1 ?u2 ?u3 ?u4 (S_pass ?kB ?kF ?kX ?kN ?kT ?kk ?kd ?ka ?kb ?kl ?k0 ?k1 ?_ ?_); (case u1 => exact rfl); (case u2 => exact rfl); (case u3 => exact Nat.le_of_ble_eq_true rfl); (case u4 => exact Nat.le_of_ble_eq_true rfl); (case kF => k_asm); (case kN => first | k_asm | exact news_tl (by k_asm)); (case kB => k_asm); (case kX => k_asm); (case kT => k_asm); (case kk => first | exact rfl | assumption); (case kd => k_asm); (case ka => k_all); (case kb => k_all); (case kl => assumption); (case k0 => omega); (case k1 => omega)); intro b' hw' hc' hd' t2' h' tk' F' N'; rotate_left; intro he' g₂ e d i1 j1 mt u1 i2 j2 v2 h' tk' hmt F' R' U'; rotate_right)
  trivial
example : True := by
  k_with "call ref" => (k_here; (with_reducible show wpAny _ _ (call (Value.ref 148) _) _ _ _); k_dflt (refine' use (D := 880) (U := 1780) ?u1 ?u2 ?u3 ?u4 (S_entityFault ?kB ?kF ?kX ?kN ?kT ?kk ?_); (case u1 => exact rfl); (case u2 => exact rfl); (case u3 => exact Nat.le_of_ble_eq_true rfl); (case u4 => exact Nat.le_of_ble_eq_true rfl); (case kF => k_asm); (case kN => first | k_asm | exact news_tl (by k_asm)); (case kB => k_asm); (case kX => k_asm); (case kT => k_asm); (case kk => first | exact rfl | assumption)); intro e' t' d' h' tk' F' N' l1')
  trivial
example : True := by
  k_with "noteFrame ref" => (k_here; (with_reducible rename RaisedD _ _ _ _ _ _ _ _ _ _ => rdX); k_dflt (refine' caught_DB rdX ?kF ?kK ?kU ?XB ?TB ?ex ?kq ?_ ?c1 ?c2 ?c3 ?c4; (case c1 => rfl); (case c2 => rfl); (case c3 => rfl); (case c4 => decide); (case kF => k_asm); (case kK => k_asm); (case kU => k_asm); (case XB => assumption); (case TB => assumption); (case ex => k_is); (case kq => kts_isx); k_whole); intro h' g' oe vs tk T' F' N' c1' c2' c3' c4' B' X' P'; (try k_lift B'))
  trivial
example : True := by
  k_with "exec Raise some none" => (k_here; k_dflt (refine' e_exec1 (C := 148) ?kh ?kX ?kK ?kF ?_; (case kh => rfl); (case kF => k_asm); (case kX => k_asm); (case kK => k_is)))
  trivial
example : True := by
  k_with "getAttr ref" => (k_here; k_dflt (refine' e_get (C := 136) ?kX (inst_exc ?kN (.head _) (.tail _ (.head _)) ?c1 ?c2 ?c3) ?k1 ?k2 ?k3 ?kf ?kv ?_; (case kN => k_asm); (case c1 => assumption); (case c2 => assumption); (case c3 => assumption); (case kX => k_in); (case k1 => k_is); (case k2 => k_is); (case k3 => k_is); (case kf => first | k_is | rfl); (case kv => rfl)))
  trivial
example : True := by
  k_with "noteFrame ref" => (k_here; (with_reducible rename RaisedD _ _ _ _ _ _ _ _ _ _ => rdX); k_dflt (refine' caught_D0 rdX ?kF ?kK ?kU ?XB ?TB ?ex ?kq ?_ ?c1 ?c2 ?c3; (case c1 => rfl); (case c2 => rfl); (case c3 => decide); (case kF => k_asm); (case kK => k_asm); (case kU => k_asm); (case XB => assumption); (case TB => assumption); (case ex => k_is); (case kq => kts_isx); k_whole); intro h' g' oe vs T' F' N' c1' c2' c3' c4' B' X' P'; (try k_lift B'))
  trivial
section
variable {prog : Program} {w : World} {p : Program} {loose : List Str} {mean : ExcName → Option Value} {mg mb : Str → Option Value} {A₀ : Around} {base h₀ : Heap} {outer : List Env} {cn : Str} {cs : Scope} {ca L : Addr} {ccd : Value} {cl : List (Str × Addr)} {m : Str → Option Value} {rest : Led} {s : Shared} {Q E : Value → Shared → Prop}
set_option maxRecDepth 100000 in
set_option maxHeartbeats 1000000 in
theorem S_passed {V : Str} {tV : Tok} {mv : Value} {o : Option Int} {A₀ : Around}
    (B : Below A₀ base outer h₀) (F : Fr h₀ L s.heap m) (X : (hd.heap_1_39 w.params).In h₀) (N : News h₀ L s.heap rest) (TT : Top p loose mean mg mb h₀) (hk : cs.kind = .function)
    (XB : (hd.heap_1_39 w.params).In base) (TB : Top p loose mean mg mb base) (hV : V.length ≤ 10000) (hm : (mv = .none ∧ o = none) ∨ ∃ i t, mv = .int i t ∧ o = some i)
    (ret : ∀ gh h' tk', KtsTurn (outer.filterMap (·.frame)) h₀ gh → Fr gh L h' m → News gh L h' rest → Below A₀ base outer gh → Q (.bool (passHead V 0 == o)) { s with heap := h', toks := tk' }) :
    wpAny (model prog w) (topAt 720 1620 none (envX cn cs L ca ccd cl) outer) (call (.ref 382) [.str V tV, mv]) Q E s := by
  rcases hm with ⟨rfl, rfl⟩ | ⟨i, t, rfl, rfl⟩
  all_goals refine wpAny_call ?_
  all_goals (
  k_dflt (refine' enterT ?k1 ?k2 ?k3 ?k4 ?k5 ?kA ?kF ?kK ?k6 ?k7 ?k8 ?k9 ?kB ?_ ?c2 ?c3 ?c4 ?c5; (case kA => exact rfl); (case kF => exact rfl); (case kK => first | exact rfl | assumption); (case k2 => k_asm); (case k1 => k_asm); (case k3 => k_asm); (case k4 => k_asm); (case k5 => k_asm); (case k6 => k_is); (case k7 => k_is); (case k8 => k_room); (case k9 => first | exact BindsTo.of_eq rfl | exact binds_K (by k_in) rfl (by k_is) rfl rfl rfl); (case c5 => decide); (case kB => exact locs rfl); (case c2 => exact rfl); (case c3 => exact rfl); (case c4 => exact rfl); k_whole; intro g' L' h' FG' F' N' B' X' T'; (try dsimp only); (try k_lift B'); (try k_fold))
  )
  all_goals k_steps
  · refine leaveT_ (by k_asm) (news_tl (news_tl (by k_asm))) .refl (fun gh T1 F1 N1 B1 => ?_)
    rename passHead _ _ = _ => hp; rw [hp] at ret; exact ret gh _ _ T1 F1 N1 B1
  · refine leaveT_ (by k_asm) (news_tl (news_tl (by k_asm))) (by assumption) (fun gh T1 F1 N1 B1 => ?_)
    rename passHead _ _ = _ => hp; rw [hp] at ret; exact ret gh _ _ T1 F1 N1 B1
  · refine leaveT_ (by k_asm) (news_tl (news_tl (by k_asm))) .refl (fun gh T1 F1 N1 B1 => ?_)
    rename passHead _ _ = _ => hp; rw [hp] at ret; exact ret gh _ _ T1 F1 N1 B1
  · refine leaveT_ (by k_asm) (news_tl (news_tl (by k_asm))) (by assumption) (fun gh T1 F1 N1 B1 => ?_)
    rename passHead _ _ = _ => hp; rw [hp] at ret; exact ret gh _ _ T1 F1 N1 B1
end


-- E10
example : True := by
  k_with_none
  trivial
example : True := by
  k_with "subscriptTail Name Constant ref int" => (k_here; with_unfolding_all refine' s_item ?k1 ?k2 ?k3 ?k4 ?k5 ?_ ?k6; (case k1 => k_asm); (case k2 => k_mem); (case k3 => decide); (case k4 => decide); (case k5 => rfl); (case k6 => with_unfolding_all rfl); k_whole)
  trivial
example : True := by
  k_with "binaryOp Mod int int" => (refine s_mod (by omega) ?_)
  trivial
example : True := by
  k_with "binaryOp FloorDiv int int" => (refine s_div (by omega) (by omega) ?_)
  trivial
example : True := by
  k_with "binaryOp Mult int int" => (refine s_mul (by omega) (by omega) ?_)
  trivial
example : True := by
  k_with "getMethod type:Exception" => (k_here; refine' method_type ?F ?X ?m (by decide +kernel) ?e ?h ?_; (case F => k_asm); (case X => k_asm); (case m => exact meta_Exception); (case e => k_dflt k_is); (case h => k_handed))
  trivial
example : True := by
  k_with "call builtin:Exception.__init__" => (k_here; k_dflt (refine' e_init ?kF ?kN ?kn ?kX ?kK ?kr ?_; (case kF => k_asm); (case kN => k_asm); (case kn => k_all); (case kX => k_in); (case kK => k_is); (case kr => simp [sizeLine_eq])); intro t' h' F' N' l1 l2; (k_lt2 l2); (replace l1 := allLt_of l1))
  trivial
example : True := by
  k_with "setAttr ref" => (k_here; k_dflt (refine' e_set_new ?kF ?kN ?kn ?kX ?k1 ?k2 ?k3 ?k4 ?kc ?kh ?km ?kr ?kt ?ks ?_; (case kF => k_asm); (case kN => first | k_asm | exact news_off (by k_asm)); (case kn => k_all); (case kX => k_in); (case k1 => rfl); (case k2 => rfl); (case k3 => rfl); (case k4 => rfl); (case kc => k_is); (case kh => rfl); (case km => k_is); (case kr => first | exact refuse136 _ | exact refuse148 _); (case kt => k_is); (case ks => k_is)); intro d' hs' ks' h' F' N' l3 l4; (k_lt2 l4); (replace l3 := allLt_of l3); (try (simp only [AllLt] at l3)); (try (obtain ⟨l5, l3⟩ := l3)); (try (obtain ⟨l6, l3⟩ := l3)))
  trivial
example : True := by
  k_with "setAttr ref" => (k_here; k_dflt (refine' e_set_old ?kF ?kN ?kg ?kn ?kX ?k1 ?k2 ?k3 ?kc ?kh ?km ?kr ?kt ?ks ?k5 ?ke ?k6 ?_; (case kF => k_asm); (case kN => exact news_swap (by k_asm)); (case kg => exact News.get (by k_asm) (.head _)); (case kn => k_all); (case kX => k_in); (case k1 => rfl); (case k2 => rfl); (case k3 => rfl); (case kc => k_is); (case kh => rfl); (case km => k_is); (case kr => first | exact refuse136 _ | exact refuse148 _); (case kt => k_is); (case ks => k_is); (case k5 => (rw [aRefKeyMayBeTheName_at, Bool.and_eq_false_iff]; right; simp [DictEntry.refKey])); (case ke => k_put); (case k6 => simp)); intro h' F' N')
  trivial
example : True := by
  k_with "exec Raise some none" => (k_here; k_dflt (refine' e_exec0 (C := 136) ?kh ?kX ?kK ?_; (case kh => rfl); (case kX => k_asm); (case kK => k_is)))
  trivial
section
variable {prog : Program} {w : World} {p : Program} {loose : List Str} {mean : ExcName → Option Value} {mg mb : Str → Option Value} {A₀ : Around} {base h₀ : Heap} {outer : List Env} {cn : Str} {cs : Scope} {ca L : Addr} {ccd : Value} {cl : List (Str × Addr)} {m : Str → Option Value} {rest : Led} {s : Shared} {Q E : Value → Shared → Prop}
set_option maxRecDepth 100000 in
set_option maxHeartbeats 1000000 in
theorem S_plain {V : Str} {tV : Tok} {A₀ : Around}
    (B : Below A₀ base outer h₀) (F : Fr h₀ L s.heap m) (X : (hd.heap_1_39 w.params).In h₀) (N : News h₀ L s.heap rest) (TT : Top p loose mean mg mb h₀) (hk : cs.kind = .function) (hV : V.length ≤ 10000)
    (ret : ∀ t0 h' tk', Fr h₀ L h' m → News h₀ L h' rest → Q (.str (plainLaw V) t0) { s with heap := h', toks := tk' }) :
    wpAny (model prog w) (topAt 860 1760 none (envX cn cs L ca ccd cl) outer) (call (.ref 389) [.str V tV]) Q E s := by
  refine wpAny_call ?_
  k_dflt (refine' enterF ?k1 ?k2 ?k3 ?k4 ?k5 ?kA ?kF ?kK ?k6 ?k7 ?k8 ?k9 ?kB ?_ ?c2 ?c3 ?c4 ?c5; (case kA => exact rfl); (case kF => exact rfl); (case kK => first | exact rfl | assumption); (case k2 => k_asm); (case k1 => k_asm); (case k3 => k_asm); (case k4 => k_asm); (case k5 => k_asm); (case k6 => k_is); (case k7 => k_is); (case k8 => k_room); (case k9 => first | exact BindsTo.of_eq rfl | exact binds_K (by k_in) rfl (by k_is) rfl rfl rfl); (case c5 => decide); (case kB => exact locs rfl); (case c2 => exact rfl); (case c3 => exact rfl); (case c4 => exact rfl); k_whole; intro g' L' h' FG' F' N' B' X' T'; (try dsimp only); (try k_lift B'); (try k_fold))
  k_steps
  with_unfolding_all refine' enum_each (T := V) (t := Str.ofString "found") (v0 := Str.ofString "") (PairSrcL.at (by assumption) _ rfl) (lpTo V) rfl (lpTo_zero V).symm ?e1 ?e2 ?_ ?_
  case e1 => decide
  case e2 => decide
  · intro i c ti tc tt h tk own hc F1 N1
    have hl := lpTo_len V i
    try k_fold
    k_steps
    all_goals (with_unfolding_all refine enum_next (by k_asm) (by k_asm) rfl (by intro z a b d; dsimp only; simp only [if_neg a, if_neg b, if_neg d]) ?_)
    all_goals first
    | exact lp_cr hc (by assumption)
    | exact lp_other hc (by assumption) (by assumption)
    | exact lp_lf hc (by assumption) (by assumption)
    | exact lp_crlf hc (by assumption) (by assumption)
  · intro h' tk tt vi vc F1 N1
    try k_fold
    k_steps
    rw [lpTo_all]
    exact ret _ _ _ (by k_asm) (by k_asm)
end


-- E11
example : True := by
  k_with_none
  trivial
example : True := by
  k_with "subscriptTail Name Constant ref int" => (k_here; with_unfolding_all refine' s_item ?k1 ?k2 ?k3 ?k4 ?k5 ?_ ?k6; (case k1 => k_asm); (case k2 => k_mem); (case k3 => decide); (case k4 => decide); (case k5 => rfl); (case k6 => with_unfolding_all rfl); k_whole)
  trivial
example : True := by
  k_with "binaryOp Mod int int" => (refine s_mod (by omega) ?_)
  trivial
example : True := by
  k_with "binaryOp FloorDiv int int" => (refine s_div (by omega) (by omega) ?_)
  trivial
example : True := by
  k_with "binaryOp Mult int int" => (refine s_mul (by omega) (by omega) ?_)
  trivial
example : True := by
  k_with "getMethod type:Exception" => (k_here; refine' method_type ?F ?X ?m (by decide +kernel) ?e ?h ?_; (case F => k_asm); (case X => k_asm); (case m => exact meta_Exception); (case e => k_dflt k_is); (case h => k_handed))
  trivial
example : True := by
  k_with "call builtin:Exception.__init__" => (k_here; k_dflt (refine' e_init ?kF ?kN ?kn ?kX ?kK ?kr ?_; (case kF => k_asm); (case kN => k_asm); (case kn => k_all); (case kX => k_in); (case kK => k_is); (case kr => simp [sizeLine_eq])); intro t' h' F' N' l1 l2; (k_lt2 l2); (replace l1 := allLt_of l1))
  trivial
example : True := by
  k_with "setAttr ref" => (k_here; k_dflt (refine' e_set_new ?kF ?kN ?kn ?kX ?k1 ?k2 ?k3 ?k4 ?kc ?kh ?km ?kr ?kt ?ks ?_; (case kF => k_asm); (case kN => first | k_asm | exact news_off (by k_asm)); (case kn => k_all); (case kX => k_in); (case k1 => rfl); (case k2 => rfl); (case k3 => rfl); (case k4 => rfl); (case kc => k_is); (case kh => rfl); (case km => k_is); (case kr => first | exact refuse136 _ | exact refuse148 _); (case kt => k_is); (case ks => k_is)); intro d' hs' ks' h' F' N' l3 l4; (k_lt2 l4); (replace l3 := allLt_of l3); (try (simp only [AllLt] at l3)); (try (obtain ⟨l5, l3⟩ := l3)); (try (obtain ⟨l6, l3⟩ := l3)))
  trivial
example : True := by
  k_with "setAttr ref" => (k_here; k_dflt (refine' e_set_old ?kF ?kN ?kg ?kn ?kX ?k1 ?k2 ?k3 ?kc ?kh ?km ?kr ?kt ?ks ?k5 ?ke ?k6 ?_; (case kF => k_asm); (case kN => exact news_swap (by k_asm)); (case kg => exact News.get (by k_asm) (.head _)); (case kn => k_all); (case kX => k_in); (case k1 => rfl); (case k2 => rfl); (case k3 => rfl); (case kc => k_is); (case kh => rfl); (case km => k_is); (case kr => first | exact refuse136 _ | exact refuse148 _); (case kt => k_is); (case ks => k_is); (case k5 => (rw [aRefKeyMayBeTheName_at, Bool.and_eq_false_iff]; right; simp [DictEntry.refKey])); (case ke => k_put); (case k6 => simp)); intro h' F' N')
  trivial
example : True := by
  k_with "exec Raise some none" => (k_here; k_dflt (refine' e_exec0 (C := 136) ?kh ?kX ?kK ?_; (case kh => rfl); (case kX => k_asm); (case kK => k_is)))
  trivial
example : True := by
  k_with "call ref" => (k_here; (with_reducible show wpAny _ _ (call (Value.ref 91) _) _ _ _); k_dflt (refine' use (D := 840) (U := 1740) ?u1 ?u2 ?u3 ?u4 (S_first ?kB ?kF ?kX ?kN ?kT ?kk ?kv ?_ ?_); (case u1 => exact rfl); (case u2 => exact rfl); (case u3 => exact Nat.le_of_ble_eq_true rfl); (case u4 => exact Nat.le_of_ble_eq_true rfl); (case kF => k_asm); (case kN => k_asm); (case kB => k_asm); (case kX => k_asm); (case kT => k_asm); (case kk => first | exact rfl | assumption); (case kv => first | omega | exact Nat.le_trans (plainEnds_len (by omega)) (by decide))); intro hf' h' tk' F' N'; rotate_left; intro hf' z' t0' h' tk' F' N'; rotate_right)
  trivial
example : True := by
  k_with "call ref" => (k_here; (with_reducible show wpAny _ _ (call (Value.ref 98) _) _ _ _); k_dflt (refine' use (D := 860) (U := 1760) ?u1 ?u2 ?u3 ?u4 (S_ends ?kB ?kF ?kX ?kN ?kT ?kk ?kv ?_); (case u1 => exact rfl); (case u2 => exact rfl); (case u3 => exact Nat.le_of_ble_eq_true rfl); (case u4 => exact Nat.le_of_ble_eq_true rfl); (case kF => k_asm); (case kN => k_asm); (case kB => k_asm); (case kX => k_asm); (case kT => k_asm); (case kk => first | exact rfl | assumption); (case kv => omega)); intro t0' h' tk' F' N')
  trivial
example : True := by
  k_with "call ref" => (k_here; (with_reducible show wpAny _ _ (call (Value.ref 328) _) _ _ _); k_dflt (refine' use (D := 720) (U := 1620) ?u1 ?u2 ?u3 ?u4 (S_without ?kB ?kF ?kX ?kN ?kT ?kk ?kx ?kt ?kv ?_ ?_); (case u1 => exact rfl); (case u2 => exact rfl); (case u3 => exact Nat.le_of_ble_eq_true rfl); (case u4 => exact Nat.le_of_ble_eq_true rfl); (case kF => k_asm); (case kN => k_asm); (case kB => k_asm); (case kX => k_asm); (case kT => k_asm); (case kk => first | exact rfl | assumption); (case kx => assumption); (case kt => assumption); (case kv => omega)); intro v' hb' hl' t0' h' tk' F' N'; rotate_left; intro hb' g₂ e d c2 h' tk' F' R' U'; rotate_right)
  trivial
example : True := by
  k_with "call ref" => (k_here; (with_reducible show wpAny _ _ (call (Value.ref 148) _) _ _ _); k_dflt (refine' use (D := 880) (U := 1780) ?u1 ?u2 ?u3 ?u4 (S_entityFault ?kB ?kF ?kX ?kN ?kT ?kk ?_); (case u1 => exact rfl); (case u2 => exact rfl); (case u3 => exact Nat.le_of_ble_eq_true rfl); (case u4 => exact Nat.le_of_ble_eq_true rfl); (case kF => k_asm); (case kN => k_asm); (case kB => k_asm); (case kX => k_asm); (case kT => k_asm); (case kk => first | exact rfl | assumption)); intro e' t' d' h' tk' F' N' l1')
  trivial
example : True := by
  k_with "leaving ref" => (k_here; (with_reducible rename RaisedD _ _ _ _ _ _ _ _ _ _ => rdX); k_dflt (refine' leave_onD ?kK ?kF rdX ?kU ?_ ?kf; (case kf => exact rfl); (case kF => k_asm); (case kK => k_asm); (case kU => k_asm)); intro h' R' U')
  trivial
example : True := by
  k_with "exec Raise some none" => (k_here; k_dflt (refine' e_exec0 (C := 148) ?kh ?kX ?kK ?_; (case kh => rfl); (case kX => k_asm); (case kK => k_is)))
  trivial
example : True := by
  k_with "noteFrame ref" => (k_here; (with_reducible rename RaisedD _ _ _ _ _ _ _ _ _ _ => rdX); k_dflt (refine' caught_D0 rdX ?kF ?kK ?kU ?XB ?TB ?ex ?kq ?_ ?c1 ?c2 ?c3; (case c1 => rfl); (case c2 => rfl); (case c3 => decide); (case kF => k_asm); (case kK => k_asm); (case kU => k_asm); (case XB => assumption); (case TB => assumption); (case ex => k_is); (case kq => kts_isx); k_whole); intro h' g' oe vs T' F' N' c1' c2' c3' c4' B' X' P'; (try k_lift B'))
  trivial
section
variable {prog : Program} {w : World} {p : Program} {loose : List Str} {mean : ExcName → Option Value} {mg mb : Str → Option Value} {A₀ : Around} {base h₀ : Heap} {outer : List Env} {cn : Str} {cs : Scope} {ca L : Addr} {ccd : Value} {cl : List (Str × Addr)} {m : Str → Option Value} {rest : Led} {s : Shared} {Q E : Value → Shared → Prop}
set_option maxRecDepth 100000 in
set_option maxHeartbeats 1000000 in
theorem S_told1 {f c' cx : Addr} {oc oo : Obj} {vs : Array Value} {T : Str} {tT u : Tok} {qual : Str} {pm ctv : Value} {pos1 pos2 pos3 : Pos} {due : Option Str} {A₀ : Around}
    (B : Below A₀ base outer h₀) (F : Fr h₀ L s.heap m) (X : (hd.heap_1_39 w.params).In h₀)
    (N : News h₀ L s.heap ((f, kla_obj (Str.ofString "<lambda>") qual { posonlyargs := [], args := [], vararg := none, kwonlyargs := [], kw_defaults := [], kwarg := none, defaults := [] } ((Expr.Name (Str.ofString "without_head") pos1).Call [Expr.Name (Str.ofString "text") pos2] [] pos3) { kind := ScopeKind.function, names := [(Str.ofString "text", NameKind.free), (Str.ofString "without_head", NameKind.globalImplicit)], isGenerator := false, isCoroutine := false } [(Str.ofString "text", cx)] pm c' ctv) :: (c', oc) :: (cx, oo) :: rest))
    (TT : Top p loose mean mg mb h₀) (hk : cs.kind = .function) (d1 : oc.data = .fields vs) (d2 : vs[1]? = some (.str qual u)) (d3 : oo.data = .cell (some (.str T tT)))
    (XB : (hd.heap_1_39 w.params).In base) (TB : Top p loose mean mg mb base) (CB : CodeHd base 395 391) (hT : T.length ≤ 9000) (hb : bare T = due)
    (ret : ∀ gh t h' tk', KtsTurn (outer.filterMap (·.frame)) h₀ gh → Fr gh L h' m → News gh L h' ((f, kla_obj (Str.ofString "<lambda>") qual { posonlyargs := [], args := [], vararg := none, kwonlyargs := [], kw_defaults := [], kwarg := none, defaults := [] } ((Expr.Name (Str.ofString "without_head") pos1).Call [Expr.Name (Str.ofString "text") pos2] [] pos3) { kind := ScopeKind.function, names := [(Str.ofString "text", NameKind.free), (Str.ofString "without_head", NameKind.globalImplicit)], isGenerator := false, isCoroutine := false } [(Str.ofString "text", cx)] pm c' ctv) :: (c', oc) :: (cx, oo) :: rest) → Below A₀ base outer gh → Q (optV due t) { s with heap := h', toks := tk' }) :
    wpAny (model prog w) (topAt 700 1600 none (envX cn cs L ca ccd cl) outer) (call (.ref 375) [.ref f]) Q E s := by
  subst hb
  refine wpAny_call ?_
  k_dflt (refine' enterT ?k1 ?k2 ?k3 ?k4 ?k5 ?kA ?kF ?kK ?k6 ?k7 ?k8 ?k9 ?kB ?_ ?c2 ?c3 ?c4 ?c5; (case kA => exact rfl); (case kF => exact rfl); (case kK => first | exact rfl | assumption); (case k2 => k_asm); (case k1 => k_asm); (case k3 => k_asm); (case k4 => k_asm); (case k5 => k_asm); (case k6 => k_is); (case k7 => k_is); (case k8 => k_room); (case k9 => first | exact BindsTo.of_eq rfl | exact binds_K (by k_in) rfl (by k_is) rfl rfl rfl); (case c5 => decide); (case kB => exact locs rfl); (case c2 => exact rfl); (case c3 => exact rfl); (case c4 => exact rfl); k_whole; intro g' L' h' FG' F' N' B' X' T'; (try dsimp only); (try k_lift B'); (try k_fold))
  k_steps
  · rename bare _ = _ => hz
    rw [hz] at ret
    exact leaveT_ (by k_asm) (by k_asm) .refl (fun gh T1 F1 N1 B1 => ret gh _ _ _ T1 F1 N1 B1)
  · rename bare _ = _ => hz
    rw [hz] at ret
    exact leaveT_ (by k_asm) (news_tl (by k_asm)) (by assumption) (fun gh T1 F1 N1 B1 => ret gh 0 _ _ T1 F1 N1 B1)
end


-- E12
example : True := by
  k_with_none
  trivial
example : True := by
  k_with "subscriptTail Name Constant ref int" => (k_here; with_unfolding_all refine' s_item ?k1 ?k2 ?k3 ?k4 ?k5 ?_ ?k6; (case k1 => k_asm); (case k2 => k_mem); (case k3 => decide); (case k4 => decide); (case k5 => rfl); (case k6 => with_unfolding_all rfl); k_whole)
  trivial
example : True := by
  k_with "binaryOp Mod int int" => (refine s_mod (by omega) ?_)
  trivial
example : True := by
  k_with "binaryOp FloorDiv int int" => (refine s_div (by omega) (by omega) ?_)
  trivial
example : True := by
  k_with "binaryOp Mult int int" => (refine s_mul (by omega) (by omega) ?_)
  trivial
example : True := by
  k_with "getMethod type:Exception" => (k_here; refine' method_type ?F ?X ?m (by decide +kernel) ?e ?h ?_; (case F => k_asm); (case X => k_asm); (case m => exact meta_Exception); (case e => k_dflt k_is); (case h => k_handed))
  trivial
example : True := by
  k_with "call builtin:Exception.__init__" => (k_here; k_dflt (refine' e_init ?kF ?kN ?kn ?kX ?kK ?kr ?_; (case kF => k_asm); (case kN => k_asm); (case kn => k_all); (case kX => k_in); (case kK => k_is); (case kr => simp [sizeLine_eq])); intro t' h' F' N' l1 l2; (k_lt2 l2); (replace l1 := allLt_of l1))
  trivial
example : True := by
  k_with "setAttr ref" => (k_here; k_dflt (refine' e_set_new ?kF ?kN ?kn ?kX ?k1 ?k2 ?k3 ?k4 ?kc ?kh ?km ?kr ?kt ?ks ?_; (case kF => k_asm); (case kN => first | k_asm | exact news_off (by k_asm)); (case kn => k_all); (case kX => k_in); (case k1 => rfl); (case k2 => rfl); (case k3 => rfl); (case k4 => rfl); (case kc => k_is); (case kh => rfl); (case km => k_is); (case kr => first | exact refuse136 _ | exact refuse148 _); (case kt => k_is); (case ks => k_is)); intro d' hs' ks' h' F' N' l3 l4; (k_lt2 l4); (replace l3 := allLt_of l3); (try (simp only [AllLt] at l3)); (try (obtain ⟨l5, l3⟩ := l3)); (try (obtain ⟨l6, l3⟩ := l3)))
  trivial
example : True := by
  k_with "setAttr ref" => (k_here; k_dflt (refine' e_set_old ?kF ?kN ?kg ?kn ?kX ?k1 ?k2 ?k3 ?kc ?kh ?km ?kr ?kt ?ks ?k5 ?ke ?k6 ?_; (case kF => k_asm); (case kN => exact news_swap (by k_asm)); (case kg => exact News.get (by k_asm) (.head _)); (case kn => k_all); (case kX => k_in); (case k1 => rfl); (case k2 => rfl); (case k3 => rfl); (case kc => k_is); (case kh => rfl); (case km => k_is); (case kr => first | exact refuse136 _ | exact refuse148 _); (case kt => k_is); (case ks => k_is); (case k5 => (rw [aRefKeyMayBeTheName_at, Bool.and_eq_false_iff]; right; simp [DictEntry.refKey])); (case ke => k_put); (case k6 => simp)); intro h' F' N')
  trivial
example : True := by
  k_with "exec Raise some none" => (k_here; k_dflt (refine' e_exec0 (C := 136) ?kh ?kX ?kK ?_; (case kh => rfl); (case kX => k_asm); (case kK => k_is)))
  trivial
example : True := by
  k_with "call ref" => (k_here; (with_reducible show wpAny _ _ (call (Value.ref 91) _) _ _ _); k_dflt (refine' use (D := 840) (U := 1740) ?u1 ?u2 ?u3 ?u4 (S_first ?kB ?kF ?kX ?kN ?kT ?kk ?kv ?_ ?_); (case u1 => exact rfl); (case u2 => exact rfl); (case u3 => exact Nat.le_of_ble_eq_true rfl); (case u4 => exact Nat.le_of_ble_eq_true rfl); (case kF => k_asm); (case kN => k_asm); (case kB => k_asm); (case kX => k_asm); (case kT => k_asm); (case kk => first | exact rfl | assumption); (case kv => first | omega | exact Nat.le_trans (plainEnds_len (by omega)) (by decide))); intro hf' h' tk' F' N'; rotate_left; intro hf' z' t0' h' tk' F' N'; rotate_right)
  trivial
example : True := by
  k_with "call ref" => (k_here; (with_reducible show wpAny _ _ (call (Value.ref 98) _) _ _ _); k_dflt (refine' use (D := 860) (U := 1760) ?u1 ?u2 ?u3 ?u4 (S_ends ?kB ?kF ?kX ?kN ?kT ?kk ?kv ?_); (case u1 => exact rfl); (case u2 => exact rfl); (case u3 => exact Nat.le_of_ble_eq_true rfl); (case u4 => exact Nat.le_of_ble_eq_true rfl); (case kF => k_asm); (case kN => k_asm); (case kB => k_asm); (case kX => k_asm); (case kT => k_asm); (case kk => first | exact rfl | assumption); (case kv => omega)); intro t0' h' tk' F' N')
  trivial
example : True := by
  k_with "call ref" => (k_here; (with_reducible show wpAny _ _ (call (Value.ref 328) _) _ _ _); k_dflt (refine' use (D := 720) (U := 1620) ?u1 ?u2 ?u3 ?u4 (S_without ?kB ?kF ?kX ?kN ?kT ?kk ?kx ?kt ?kv ?_ ?_); (case u1 => exact rfl); (case u2 => exact rfl); (case u3 => exact Nat.le_of_ble_eq_true rfl); (case u4 => exact Nat.le_of_ble_eq_true rfl); (case kF => k_asm); (case kN => k_asm); (case kB => k_asm); (case kX => k_asm); (case kT => k_asm); (case kk => first | exact rfl | assumption); (case kx => assumption); (case kt => assumption); (case kv => omega)); intro v' hb' hl' t0' h' tk' F' N'; rotate_left; intro hb' g₂ e d c2 h' tk' F' R' U'; rotate_right)
  trivial
example : True := by
  k_with "call ref" => (k_here; (with_reducible show wpAny _ _ (call (Value.ref 148) _) _ _ _); k_dflt (refine' use (D := 880) (U := 1780) ?u1 ?u2 ?u3 ?u4 (S_entityFault ?kB ?kF ?kX ?kN ?kT ?kk ?_); (case u1 => exact rfl); (case u2 => exact rfl); (case u3 => exact Nat.le_of_ble_eq_true rfl); (case u4 => exact Nat.le_of_ble_eq_true rfl); (case kF => k_asm); (case kN => k_asm); (case kB => k_asm); (case kX => k_asm); (case kT => k_asm); (case kk => first | exact rfl | assumption)); intro e' t' d' h' tk' F' N' l1')
  trivial
example : True := by
  k_with "leaving ref" => (k_here; (with_reducible rename RaisedD _ _ _ _ _ _ _ _ _ _ => rdX); k_dflt (refine' leave_onD ?kK ?kF rdX ?kU ?_ ?kf; (case kf => exact rfl); (case kF => k_asm); (case kK => k_asm); (case kU => k_asm)); intro h' R' U')
  trivial
example : True := by
  k_with "exec Raise some none" => (k_here; k_dflt (refine' e_exec0 (C := 148) ?kh ?kX ?kK ?_; (case kh => rfl); (case kX => k_asm); (case kK => k_is)))
  trivial
example : True := by
  k_with "noteFrame ref" => (k_here; (with_reducible rename RaisedD _ _ _ _ _ _ _ _ _ _ => rdX); k_dflt (refine' caught_D0 rdX ?kF ?kK ?kU ?XB ?TB ?ex ?kq ?_ ?c1 ?c2 ?c3; (case c1 => rfl); (case c2 => rfl); (case c3 => decide); (case kF => k_asm); (case kK => k_asm); (case kU => k_asm); (case XB => assumption); (case TB => assumption); (case ex => k_is); (case kq => kts_isx); k_whole); intro h' g' oe vs T' F' N' c1' c2' c3' c4' B' X' P'; (try k_lift B'))
  trivial
example : True := by
  k_with "call ref" => (k_here; (with_reducible show wpAny _ _ (call (Value.ref 335) _) _ _ _); k_dflt (refine' use (D := 700) (U := 1600) ?u1 ?u2 ?u3 ?u4 (S_outer ?kB ?kF ?kX ?kN ?kT ?kk ?kx ?kt ?kv ?_ ?_); (case u1 => exact rfl); (case u2 => exact rfl); (case u3 => exact Nat.le_of_ble_eq_true rfl); (case u4 => exact Nat.le_of_ble_eq_true rfl); (case kF => k_asm); (case kN => k_asm); (case kB => k_asm); (case kX => k_asm); (case kT => k_asm); (case kk => first | exact rfl | assumption); (case kx => assumption); (case kt => assumption); (case kv => omega)); intro v' hb' t0' h' tk' F' N'; rotate_left; intro hb' g₂ e d c2 h' tk' F' R' U'; rotate_right)
  trivial
section
variable {prog : Program} {w : World} {p : Program} {loose : List Str} {mean : ExcName → Option Value} {mg mb : Str → Option Value} {A₀ : Around} {base h₀ : Heap} {outer : List Env} {cn : Str} {cs : Scope} {ca L : Addr} {ccd : Value} {cl : List (Str × Addr)} {m : Str → Option Value} {rest : Led} {s : Shared} {Q E : Value → Shared → Prop}
set_option maxRecDepth 100000 in
set_option maxHeartbeats 1000000 in
theorem S_told2 {f c' cx cm : Addr} {oc oo om : Obj} {vs : Array Value} {T M : Str} {tT tM u : Tok} {qual : Str} {pm ctv : Value} {pos1 pos2 pos3 pos4 pos5 : Pos} {due : Option Str} {A₀ : Around}
    (B : Below A₀ base outer h₀) (F : Fr h₀ L s.heap m) (X : (hd.heap_1_39 w.params).In h₀)
    (N : News h₀ L s.heap ((f, kla_obj (Str.ofString "<lambda>") qual { posonlyargs := [], args := [], vararg := none, kwonlyargs := [], kw_defaults := [], kwarg := none, defaults := [] } ((Expr.Name (Str.ofString "plain_outer") pos1).Call [(Expr.Name (Str.ofString "mark") pos2).BinOp Operator.Add (Expr.Name (Str.ofString "text") pos4) pos5] [] pos3) { kind := ScopeKind.function, names := [(Str.ofString "mark", NameKind.free), (Str.ofString "text", NameKind.free), (Str.ofString "plain_outer", NameKind.globalImplicit)], isGenerator := false, isCoroutine := false } [(Str.ofString "text", cx), (Str.ofString "mark", cm)] pm c' ctv) :: (c', oc) :: (cx, oo) :: (cm, om) :: rest))
    (TT : Top p loose mean mg mb h₀) (hk : cs.kind = .function) (d1 : oc.data = .fields vs) (d2 : vs[1]? = some (.str qual u)) (d3 : oo.data = .cell (some (.str T tT))) (d4 : om.data = .cell (some (.str M tM)))
    (XB : (hd.heap_1_39 w.params).In base) (TB : Top p loose mean mg mb base) (CB : CodeHd base 395 391) (hT : T.length ≤ 9000) (hM : M.length ≤ 100) (hb : outerOf (M ++ T) = due)
    (ret : ∀ gh t h' tk', KtsTurn (outer.filterMap (·.frame)) h₀ gh → Fr gh L h' m → News gh L h' ((f, kla_obj (Str.ofString "<lambda>") qual { posonlyargs := [], args := [], vararg := none, kwonlyargs := [], kw_defaults := [], kwarg := none, defaults := [] } ((Expr.Name (Str.ofString "plain_outer") pos1).Call [(Expr.Name (Str.ofString "mark") pos2).BinOp Operator.Add (Expr.Name (Str.ofString "text") pos4) pos5] [] pos3) { kind := ScopeKind.function, names := [(Str.ofString "mark", NameKind.free), (Str.ofString "text", NameKind.free), (Str.ofString "plain_outer", NameKind.globalImplicit)], isGenerator := false, isCoroutine := false } [(Str.ofString "text", cx), (Str.ofString "mark", cm)] pm c' ctv) :: (c', oc) :: (cx, oo) :: (cm, om) :: rest) → Below A₀ base outer gh → Q (optV due t) { s with heap := h', toks := tk' }) :
    wpAny (model prog w) (topAt 680 1580 none (envX cn cs L ca ccd cl) outer) (call (.ref 375) [.ref f]) Q E s := by
  subst hb
  refine wpAny_call ?_
  k_dflt (refine' enterT ?k1 ?k2 ?k3 ?k4 ?k5 ?kA ?kF ?kK ?k6 ?k7 ?k8 ?k9 ?kB ?_ ?c2 ?c3 ?c4 ?c5; (case kA => exact rfl); (case kF => exact rfl); (case kK => first | exact rfl | assumption); (case k2 => k_asm); (case k1 => k_asm); (case k3 => k_asm); (case k4 => k_asm); (case k5 => k_asm); (case k6 => k_is); (case k7 => k_is); (case k8 => k_room); (case k9 => first | exact BindsTo.of_eq rfl | exact binds_K (by k_in) rfl (by k_is) rfl rfl rfl); (case c5 => decide); (case kB => exact locs rfl); (case c2 => exact rfl); (case c3 => exact rfl); (case c4 => exact rfl); k_whole; intro g' L' h' FG' F' N' B' X' T'; (try dsimp only); (try k_lift B'); (try k_fold))
  k_steps
  · rename outerOf _ = _ => hz
    rw [hz] at ret
    exact leaveT_ (by k_asm) (by k_asm) .refl (fun gh T1 F1 N1 B1 => ret gh _ _ _ T1 F1 N1 B1)
  · rename outerOf _ = _ => hz
    rw [hz] at ret
    exact leaveT_ (by k_asm) (news_tl (by k_asm)) (by assumption) (fun gh T1 F1 N1 B1 => ret gh 0 _ _ T1 F1 N1 B1)
end


-- E13
example : True := by
  k_with_none
  trivial
example : True := by
  k_with "subscriptTail Name Constant ref int" => (k_here; with_unfolding_all refine' s_item ?k1 ?k2 ?k3 ?k4 ?k5 ?_ ?k6; (case k1 => k_asm); (case k2 => k_mem); (case k3 => decide); (case k4 => decide); (case k5 => rfl); (case k6 => with_unfolding_all rfl); k_whole)
  trivial
example : True := by
  k_with "binaryOp Mod int int" => (refine s_mod (by omega) ?_)
  trivial
example : True := by
  k_with "binaryOp FloorDiv int int" => (refine s_div (by omega) (by omega) ?_)
  trivial
example : True := by
  k_with "binaryOp Mult int int" => (refine s_mul (by omega) (by omega) ?_)
  trivial
example : True := by
  k_with "getMethod type:Exception" => (k_here; refine' method_type ?F ?X ?m (by decide +kernel) ?e ?h ?_; (case F => k_asm); (case X => k_asm); (case m => exact meta_Exception); (case e => k_dflt k_is); (case h => k_handed))
  trivial
example : True := by
  k_with "call builtin:Exception.__init__" => (k_here; k_dflt (refine' e_init ?kF ?kN ?kn ?kX ?kK ?kr ?_; (case kF => k_asm); (case kN => k_asm); (case kn => k_all); (case kX => k_in); (case kK => k_is); (case kr => simp [sizeLine_eq])); intro t' h' F' N' l1 l2; (k_lt2 l2); (replace l1 := allLt_of l1))
  trivial
example : True := by
  k_with "setAttr ref" => (k_here; k_dflt (refine' e_set_new ?kF ?kN ?kn ?kX ?k1 ?k2 ?k3 ?k4 ?kc ?kh ?km ?kr ?kt ?ks ?_; (case kF => k_asm); (case kN => first | k_asm | exact news_off (by k_asm)); (case kn => k_all); (case kX => k_in); (case k1 => rfl); (case k2 => rfl); (case k3 => rfl); (case k4 => rfl); (case kc => k_is); (case kh => rfl); (case km => k_is); (case kr => first | exact refuse136 _ | exact refuse148 _); (case kt => k_is); (case ks => k_is)); intro d' hs' ks' h' F' N' l3 l4; (k_lt2 l4); (replace l3 := allLt_of l3); (try (simp only [AllLt] at l3)); (try (obtain ⟨l5, l3⟩ := l3)); (try (obtain ⟨l6, l3⟩ := l3)))
  trivial
example : True := by
  k_with "setAttr ref" => (k_here; k_dflt (refine' e_set_old ?kF ?kN ?kg ?kn ?kX ?k1 ?k2 ?k3 ?kc ?kh ?km ?kr ?kt ?ks ?k5 ?ke ?k6 ?_; (case kF => k_asm); (case kN => exact news_swap (by k_asm)); (case kg => exact News.get (by k_asm) (.head _)); (case kn => k_all); (case kX => k_in); (case k1 => rfl); (case k2 => rfl); (case k3 => rfl); (case kc => k_is); (case kh => rfl); (case km => k_is); (case kr => first | exact refuse136 _ | exact refuse148 _); (case kt => k_is); (case ks => k_is); (case k5 => (rw [aRefKeyMayBeTheName_at, Bool.and_eq_false_iff]; right; simp [DictEntry.refKey])); (case ke => k_put); (case k6 => simp)); intro h' F' N')
  trivial
example : True := by
  k_with "exec Raise some none" => (k_here; k_dflt (refine' e_exec0 (C := 136) ?kh ?kX ?kK ?_; (case kh => rfl); (case kX => k_asm); (case kK => k_is)))
  trivial
example : True := by
  k_with "call ref" => (k_here; (with_reducible show wpAny _ _ (call (Value.ref 375) _) _ _ _); refine held ?_)
  trivial
example : True := by
  k_with "call ref" => (k_here; (with_reducible show wpAny _ _ (call (Value.ref 382) _) _ _ _); refine held ?_)
  trivial
example : True := by
  k_with "call ref" => (k_here; (with_reducible show wpAny _ _ (call (Value.ref 389) _) _ _ _); refine held ?_)
  trivial
example : True := by
  k_with "call ref" => (k_here; (with_reducible show wpAny _ _ (call (Value.ref 382) _) _ _ _); k_dflt (refine' use (D := 720) (U := 1620) ?u1 ?u2 ?u3 ?u4 (S_passed ?kB ?kF ?kX ?kN ?kT ?kk ?kx ?kt ?kv ?km ?_); (case u1 => exact rfl); (case u2 => exact rfl); (case u3 => exact Nat.le_of_ble_eq_true rfl); (case u4 => exact Nat.le_of_ble_eq_true rfl); (case kF => k_asm); (case kN => k_asm); (case kB => k_asm); (case kX => k_asm); (case kT => k_asm); (case kk => first | exact rfl | assumption); (case kx => assumption); (case kt => assumption); (case kv => omega); (case km => first | exact .inl ⟨rfl, rfl⟩ | exact .inr ⟨_, _, rfl, rfl⟩)); intro gh' h' tk' T' F' N' B'; k_dflt (have X' := Frag.In.keeps XB (Below.stays B'); have TT' := Top.keeps TB (Below.stays B'); have codeHd' := CodeHd.keeps CB (Below.stays B')); k_dflt (first | rw [p1 (by assumption) (by assumption) (by assumption)] | rw [p2 (by assumption) (by assumption) (by assumption)]); simp only [beq_self_eq_true])
  trivial
example : True := by
  k_with "call ref" => (k_here; (with_reducible show wpAny _ _ (call (Value.ref 389) _) _ _ _); k_dflt (refine' use (D := 860) (U := 1760) ?u1 ?u2 ?u3 ?u4 (S_plain ?kB ?kF ?kX ?kN ?kT ?kk ?kv ?_); (case u1 => exact rfl); (case u2 => exact rfl); (case u3 => exact Nat.le_of_ble_eq_true rfl); (case u4 => exact Nat.le_of_ble_eq_true rfl); (case kF => k_asm); (case kN => k_asm); (case kB => k_asm); (case kX => k_asm); (case kT => k_asm); (case kk => first | exact rfl | assumption); (case kv => omega)); intro t0' h' tk' F' N')
  trivial
example : True := by
  k_with "call ref" => (k_here; (with_reducible show wpAny _ _ (call (Value.ref 375) _) _ _ _); first | (k_dflt (refine' use (D := 680) (U := 1580) ?u1 ?u2 ?u3 ?u4 (S_told2 (T := O ++ H ++ D) ?kB ?kF ?kX ?kN ?kT ?kk ?d1 ?d2 ?d3 ?d4 ?kx ?kt ?kc ?kv ?km ?kb ?_); (case u1 => exact rfl); (case u2 => exact rfl); (case u3 => exact Nat.le_of_ble_eq_true rfl); (case u4 => exact Nat.le_of_ble_eq_true rfl); (case kF => k_asm); (case kN => exact news_front4 (by k_asm) (.head _) (by repeat (first | exact List.Mem.head _ | apply List.Mem.tail)) (by repeat (first | exact List.Mem.head _ | apply List.Mem.tail)) (by repeat (first | exact List.Mem.head _ | apply List.Mem.tail))); (case kB => k_asm); (case kX => k_asm); (case kT => k_asm); (case kk => first | exact rfl | assumption); (case d1 => assumption); (case d2 => assumption); (case d3 => assumption); (case d4 => assumption); (case kx => assumption); (case kt => assumption); (case kc => assumption); (case kv => omega); (case km => decide); (case kb => first | exact (ob _ (by first | exact .inl rfl | exact .inr rfl)).trans (outLaw_none (by assumption)) | exact (ob _ (by first | exact .inl rfl | exact .inr rfl)).trans (outLaw_bad (by assumption) (by assumption)) | exact (ob _ (by first | exact .inl rfl | exact .inr rfl)).trans (outLaw_ok (by assumption) (by assumption)))); intro gh' t' h' tk' T' F' N' B'; k_dflt (replace N' := news_tl (news_tl (news_tl (news_tl N'))); have X' := Frag.In.keeps XB (Below.stays B'); have TT' := Top.keeps TB (Below.stays B'); have codeHd' := CodeHd.keeps CB (Below.stays B')); simp only [optV]) | (rcases tf (Builtin.Str.occurrences d (sOf "\x01") 0 d.length 1).isEmpty with hc' | hc'))
  trivial
example : True := by
  k_with "exec For" => (k_here; (rename Fr _ _ _ _ => lF'); k_dflt (refine' for_two lF' ?_); k_whole)
  trivial
example : True := by
  k_with "pyIter ref" => (k_here; (with_reducible show wpAny _ _ (pyIter (Value.ref _)) (fun it s₂ => Turns2 _ _ _ _ _ _ _ _ _ _) _ _); k_dflt (refine' iter_listX ?kF ?kN ?km ?_; (case kF => k_asm); (case kN => k_asm); (case km => k_mem)); intro it' o' h' hic hid F' N' l1; (try k_lt l1))
  trivial
example : True := by
  k_with "Turns2" => (k_here; k_dflt (first | (refine' turn_end (i := 2) ?kh ?kF ?kN ?kI ?kc ?kd ?km ?kx (391, tabObj _) ?kq ?ki ?_; (case kh => exact rfl); (case kF => k_asm); (case kN => k_asm); (case kI => repeat (first | exact List.Mem.head _ | apply List.Mem.tail)); (case kc => assumption); (case kd => assumption); (case km => repeat (first | exact List.Mem.head _ | apply List.Mem.tail)); (case kx => exact rfl); (case kq => repeat (first | exact List.Mem.head _ | apply List.Mem.tail)); (case ki => k_ne); intro h' F' N') | (refine' turn_item (i := 0) ?kF ?kN ?kU ?kc ?kd ?km ?kx ?kt ?_; (case kd => assumption); (case kF => k_asm); (case kN => k_asm); (case kU => k_updF); (case kc => assumption); (case km => repeat (first | exact List.Mem.head _ | apply List.Mem.tail)); (case kx => exact rfl); (case kt => exact fun _ _ => rfl); intro o' h' hic hid F' N') | (refine' turn_item (i := 1) ?kF ?kN ?kU ?kc ?kd ?km ?kx ?kt ?_; (case kd => assumption); (case kF => k_asm); (case kN => k_asm); (case kU => k_updF); (case kc => assumption); (case km => repeat (first | exact List.Mem.head _ | apply List.Mem.tail)); (case kx => exact rfl); (case kt => exact fun _ _ => rfl); intro o' h' hic hid F' N')))
  trivial
example : True := by
  k_with "TurnF" => (k_here; k_dflt (first | (refine' turn_end (i := 2) ?kh ?kF ?kN ?kI ?kc ?kd ?km ?kx (391, tabObj _) ?kq ?ki ?_; (case kh => exact rfl); (case kF => k_asm); (case kN => k_asm); (case kI => repeat (first | exact List.Mem.head _ | apply List.Mem.tail)); (case kc => assumption); (case kd => assumption); (case km => repeat (first | exact List.Mem.head _ | apply List.Mem.tail)); (case kx => exact rfl); (case kq => repeat (first | exact List.Mem.head _ | apply List.Mem.tail)); (case ki => k_ne); intro h' F' N') | (refine' turn_item (i := 0) ?kF ?kN ?kU ?kc ?kd ?km ?kx ?kt ?_; (case kd => assumption); (case kF => k_asm); (case kN => k_asm); (case kU => k_updF); (case kc => assumption); (case km => repeat (first | exact List.Mem.head _ | apply List.Mem.tail)); (case kx => exact rfl); (case kt => exact fun _ _ => rfl); intro o' h' hic hid F' N') | (refine' turn_item (i := 1) ?kF ?kN ?kU ?kc ?kd ?km ?kx ?kt ?_; (case kd => assumption); (case kF => k_asm); (case kN => k_asm); (case kU => k_updF); (case kc => assumption); (case km => repeat (first | exact List.Mem.head _ | apply List.Mem.tail)); (case kx => exact rfl); (case kt => exact fun _ _ => rfl); intro o' h' hic hid F' N')))
  trivial
example : True := by
  k_with "call ref" => (k_here; (with_reducible show wpAny _ _ (call (Value.ref 375) _) _ _ _); k_dflt (refine' use (D := 700) (U := 1600) ?u1 ?u2 ?u3 ?u4 (S_told1 (T := O ++ H ++ D) ?kB ?kF ?kX ?kN ?kT ?kk ?d1 ?d2 ?d3 ?kx ?kt ?kc ?kv ?kb ?_); (case u1 => exact rfl); (case u2 => exact rfl); (case u3 => exact Nat.le_of_ble_eq_true rfl); (case u4 => exact Nat.le_of_ble_eq_true rfl); (case kF => k_asm); (case kN => exact news_front3 (by k_asm) (.head _) (.tail _ (.head _)) (by repeat (first | exact List.Mem.head _ | apply List.Mem.tail))); (case kB => k_asm); (case kX => k_asm); (case kT => k_asm); (case kk => first | exact rfl | assumption); (case d1 => assumption); (case d2 => assumption); (case d3 => assumption); (case kx => assumption); (case kt => assumption); (case kc => assumption); (case kv => omega); (case kb => assumption)); intro gh' t' h' tk' T' F' N' B'; k_dflt (replace N' := news_tl (news_tl (news_tl (news_tl (news_tl N')))); have X' := Frag.In.keeps XB (Below.stays B'); have TT' := Top.keeps TB (Below.stays B'); have codeHd' := CodeHd.keeps CB (Below.stays B')); simp only [optV])
  trivial
example : True := by
  k_with "eval Lambda" => (k_here; (with_reducible rename HoldNow => hX'); refine held ?_)
  trivial
example : True := by
  k_with "compareOp NotEq str str" => (with_reducible refine s_neSelf ?_)
  trivial
example : True := by
  k_with "ite" => first | (with_reducible refine m_ff ?_) | (with_reducible refine m_tt ?_)
  trivial
section
variable {prog : Program} {w : World} {p : Program} {loose : List Str} {mean : ExcName → Option Value} {mg mb : Str → Option Value} {A₀ : Around} {base h₀ : Heap} {outer : List Env} {cn : Str} {cs : Scope} {ca L : Addr} {ccd : Value} {cl : List (Str × Addr)} {m : Str → Option Value} {rest : Led} {s : Shared} {Q E : Value → Shared → Prop}
set_option maxRecDepth 100000 in
set_option maxHeartbeats 2000000 in
theorem S_right {O H D : Str} {b : Bool} {tO tH tD : Tok} {A₀ : Around}
    (B : Below A₀ base outer h₀) (F : Fr h₀ L s.heap m) (X : (hd.heap_1_39 w.params).In h₀) (N : News h₀ L s.heap [(391, tabObj #[])]) (TT : Top p loose mean mg mb h₀) (hk : cs.kind = .function)
    (XB : (hd.heap_1_39 w.params).In base) (TB : Top p loose mean mg mb base) (CB : CodeHd base 395 391) (hO : O.length ≤ 40) (hH : H.length ≤ 1000) (hD : D.length ≤ 100)
    (p1 : (Txt.slice O none (some 5) == Str.ofString "<?xml") = true → ([Str.ofString " ", Str.ofString "\t", Str.ofString "\n"].any fun x => x == Txt.slice O (some 5) none) = true → b = true → passHead (O ++ H ++ D) 0 = some ((O ++ H).length : Int))
    (p2 : (Txt.slice O none (some 5) == Str.ofString "<?xml") = true → ([Str.ofString " ", Str.ofString "\t", Str.ofString "\n"].any fun x => x == Txt.slice O (some 5) none) = true → b = false → passHead (O ++ H ++ D) 0 = none)
    (q1 : (Txt.slice O none (some 5) == Str.ofString "<?xml") = true → ([Str.ofString " ", Str.ofString "\t", Str.ofString "\n"].any fun x => x == Txt.slice O (some 5) none) = true → b = true → bare (O ++ H ++ D) = some D)
    (q2 : (Txt.slice O none (some 5) == Str.ofString "<?xml") = true → ([Str.ofString " ", Str.ofString "\t", Str.ofString "\n"].any fun x => x == Txt.slice O (some 5) none) = true → b = false → bare (O ++ H ++ D) = none)
    (q3 : ([Str.ofString " ", Str.ofString "\t", Str.ofString "\n"].any fun x => x == Txt.slice O (some 5) none) = false → bare (O ++ H ++ D) = some (O ++ H ++ D))
    (q4 : (Txt.slice O none (some 5) == Str.ofString "<?xml") = false → bare (O ++ H ++ D) = some (O ++ H ++ D))
    (ob : ∀ M, M = Str.ofString "" ∨ M = Str.ofString "\ufeff" → outerOf (M ++ (O ++ H ++ D)) = outLaw (bare (O ++ H ++ D)))
    (ret : ∀ gh ps h' tk', KtsTurn (outer.filterMap (·.frame)) h₀ gh → Fr gh L h' m → News gh L h' [(391, tabObj ps)] → Below A₀ base outer gh → Q (.bool true) { s with heap := h', toks := tk' }) :
    wpAny (model prog w) (topAt 640 1500 none (envX cn cs L ca ccd cl) outer) (call (.ref 396) [.str O tO, .str H tH, .bool b, .str D tD]) Q E s := by
  refine wpAny_call ?_
  k_dflt (refine' enterTC ?k1 ?k2 ?k3 ?k4 ?k5 ?kA ?kF ?kK ?k6 ?k7 ?k8 ?k9 ?kB ?kD ?_ ?c2 ?c3 ?c4; (case kA => exact rfl); (case kF => exact rfl); (case kK => first | exact rfl | assumption); (case k1 => k_asm); (case k2 => k_asm); (case k3 => k_asm); (case k4 => k_asm); (case k5 => k_asm); (case k6 => k_is); (case k7 => k_is); (case k8 => k_room); (case k9 => first | exact BindsTo.of_eq rfl | exact binds_K (by k_in) rfl (by k_is) rfl rfl rfl); (case kB => exact rfl); (case kD => decide +kernel); (case c2 => exact rfl); (case c3 => exact rfl); (case c4 => exact rfl); k_whole; intro g' L' h' tk' cells' FG' F' N' Y' B' X' T' l1; (try k_lt l1); k_cells Y'; (try simp only [List.cons_append, List.nil_append] at N'); (try dsimp only); have codeHd := CodeHd.keeps CB (Below.stays B'); (try k_fold))
  refine' cutR (T := fun ba A t Q E => ∀ gh h tk dv vh oT oM tT, Fr gh L' h (fun y => if y = Str.ofString "due" then some dv else if y = Str.ofString "is_head" then some vh else ba y) → News gh L' h [(L' + 1 + 1, oT), (L' + 1, oM), (391, tabObj #[])] → oT.data = .cell (some (.str (O ++ H ++ D) tT)) → (∃ v0, oM.data = .cell v0) → Below (topAt 640 1500 none (envX cn cs L ca ccd cl) outer) base (envX cn cs L ca ccd cl :: outer) gh → KtsTurn ((envX cn cs L ca ccd cl :: outer).filterMap (·.frame)) g' gh →
    ((∃ d td, bare (O ++ H ++ D) = some d ∧ dv = .str d td ∧ d.length ≤ 1200) ∨ (bare (O ++ H ++ D) = none ∧ dv = .none)) → wpAny (model prog w) A t Q E { s with heap := h, toks := tk }) ?_ ?_ ?_ ?_ ?_ ?ht ?hm
  case hm =>
    intro key
    have hX : HoldNow := trivial
    k_steps
    all_goals refine held' ?_
    · k_dflt exact key _ _ _ _ _ _ _ _ (by k_asm) (news_three (by k_asm) (by repeat (first | exact List.Mem.head _ | apply List.Mem.tail)) (by repeat (first | exact List.Mem.head _ | apply List.Mem.tail)) (by repeat (first | exact List.Mem.head _ | apply List.Mem.tail))) (by assumption) ⟨_, by assumption⟩ (by k_asm) (by assumption) (.inl ⟨D, _, q1 (by assumption) (by assumption) (by assumption), rfl, by omega⟩)
    · k_dflt exact key _ _ _ _ _ _ _ _ (by k_asm) (news_three (by k_asm) (by repeat (first | exact List.Mem.head _ | apply List.Mem.tail)) (by repeat (first | exact List.Mem.head _ | apply List.Mem.tail)) (by repeat (first | exact List.Mem.head _ | apply List.Mem.tail))) (by assumption) ⟨_, by assumption⟩ (by k_asm) (by assumption) (.inr ⟨q2 (by assumption) (by assumption) (by assumption), rfl⟩)
    · k_dflt exact key _ _ _ _ _ _ _ _ (by k_asm) (news_three (by k_asm) (by repeat (first | exact List.Mem.head _ | apply List.Mem.tail)) (by repeat (first | exact List.Mem.head _ | apply List.Mem.tail)) (by repeat (first | exact List.Mem.head _ | apply List.Mem.tail))) (by assumption) ⟨_, by assumption⟩ (by k_asm) .refl (.inl ⟨_, _, q3 (by assumption), rfl, by omega⟩)
    · k_dflt exact key _ _ _ _ _ _ _ _ (by k_asm) (news_three (by k_asm) (by repeat (first | exact List.Mem.head _ | apply List.Mem.tail)) (by repeat (first | exact List.Mem.head _ | apply List.Mem.tail)) (by repeat (first | exact List.Mem.head _ | apply List.Mem.tail))) (by assumption) ⟨_, by assumption⟩ (by k_asm) .refl (.inl ⟨_, _, q4 (by assumption), rfl, by omega⟩)
  case ht =>
    intro gh h tk dv vh oT oM tT F1 N1 dT ⟨v0, dM⟩ B1 T1 hdv
    have X1 := Frag.In.keeps XB (Below.stays B1)
    have TT1 := Top.keeps TB (Below.stays B1)
    have C1 := CodeHd.keeps CB (Below.stays B1)
    clear F N X TT FG' F' N' B' X' T' codeHd p1 p2 q1 q2 q3 q4 B
    have hlT : (O ++ H ++ D).length ≤ 1200 := by simp only [Str.length_append]; omega
    clear hO hH hD
    rcases hdv with ⟨d, td, hq, rfl, hdl⟩ | ⟨hq, rfl⟩
    · k_steps
      all_goals first
      | (exfalso; exact bne_self (by assumption))
      | exact leaveT_ (by k_asm) (news_one (p := (391, tabObj _)) (by k_asm) (by repeat (first | exact List.Mem.head _ | apply List.Mem.tail))) (by repeat (first | assumption | refine KtsTurn.trans (by assumption) ?_)) (fun gh T1 F1 N1 B1 => ret gh _ _ _ T1 F1 N1 B1)
    · k_steps
      all_goals first
      | (exfalso; exact bne_self (by assumption))
      | exact leaveT_ (by k_asm) (news_one (p := (391, tabObj _)) (by k_asm) (by repeat (first | exact List.Mem.head _ | apply List.Mem.tail))) (by repeat (first | assumption | refine KtsTurn.trans (by assumption) ?_)) (fun gh T1 F1 N1 B1 => ret gh _ _ _ T1 F1 N1 B1)
end


-- E14
example : True := by
  k_with_none
  trivial
section
variable {prog : Program} {w : World} {p : Program} {loose : List Str} {mean : ExcName → Option Value} {mg mb : Str → Option Value} {A₀ : Around} {base h₀ : Heap} {outer : List Env} {cn : Str} {cs : Scope} {ca L : Addr} {ccd : Value} {cl : List (Str × Addr)} {m : Str → Option Value} {rest : Led} {s : Shared} {Q E : Value → Shared → Prop}
set_option maxRecDepth 100000 in
set_option maxHeartbeats 800000 in
theorem S_outerV {V v : Str} {tV : Tok} {A₀ : Around}
    (B : Below A₀ base outer h₀) (F : Fr h₀ L s.heap m) (X : (hd.heap_1_39 w.params).In h₀) (N : News h₀ L s.heap rest) (TT : Top p loose mean mg mb h₀) (hk : cs.kind = .function)
    (XB : (hd.heap_1_39 w.params).In base) (TB : Top p loose mean mg mb base) (hV : V.length ≤ 10000) (hv : outerOf V = some v)
    (r1 : ∀ t0 h' tk', Fr h₀ L h' m → News h₀ L h' rest → Q (.str v t0) { s with heap := h', toks := tk' }) :
    wpAny (model prog w) (topAt 700 1600 none (envX cn cs L ca ccd cl) outer) (call (.ref 335) [.str V tV]) Q E s :=
  S_outer B F X N TT hk XB TB hV (fun v' e t0 h' tk' F' N' => by rw [hv] at e; cases e; exact r1 t0 h' tk' F' N') (fun e => by rw [hv] at e; cases e)
set_option maxRecDepth 100000 in
set_option maxHeartbeats 800000 in
theorem S_withoutV {V v : Str} {tV : Tok} {A₀ : Around}
    (B : Below A₀ base outer h₀) (F : Fr h₀ L s.heap m) (X : (hd.heap_1_39 w.params).In h₀) (N : News h₀ L s.heap rest) (TT : Top p loose mean mg mb h₀) (hk : cs.kind = .function)
    (XB : (hd.heap_1_39 w.params).In base) (TB : Top p loose mean mg mb base) (hV : V.length ≤ 10000) (hv : bare V = some v)
    (r1 : ∀ t0 h' tk', Fr h₀ L h' m → News h₀ L h' rest → Q (.str v t0) { s with heap := h', toks := tk' }) :
    wpAny (model prog w) (topAt 720 1620 none (envX cn cs L ca ccd cl) outer) (call (.ref 328) [.str V tV]) Q E s :=
  S_without B F X N TT hk XB TB hV (fun v' e _ t0 h' tk' F' N' => by rw [hv] at e; cases e; exact r1 t0 h' tk' F' N') (fun e => by rw [hv] at e; cases e)
end


-- E15
example : True := by
  k_with_none
  trivial
example : True := by
  k_with "subscriptTail Name Constant ref int" => (k_here; with_unfolding_all refine' s_item ?k1 ?k2 ?k3 ?k4 ?k5 ?_ ?k6; (case k1 => k_asm); (case k2 => k_mem); (case k3 => decide); (case k4 => decide); (case k5 => rfl); (case k6 => with_unfolding_all rfl); k_whole)
  trivial
example : True := by
  k_with "binaryOp Mod int int" => (refine s_mod (by omega) ?_)
  trivial
example : True := by
  k_with "binaryOp FloorDiv int int" => (refine s_div (by omega) (by omega) ?_)
  trivial
example : True := by
  k_with "binaryOp Mult int int" => (refine s_mul (by omega) (by omega) ?_)
  trivial
example : True := by
  k_with "getMethod type:Exception" => (k_here; refine' method_type ?F ?X ?m (by decide +kernel) ?e ?h ?_; (case F => k_asm); (case X => k_asm); (case m => exact meta_Exception); (case e => k_dflt k_is); (case h => k_handed))
  trivial
example : True := by
  k_with "call builtin:Exception.__init__" => (k_here; k_dflt (refine' e_init ?kF ?kN ?kn ?kX ?kK ?kr ?_; (case kF => k_asm); (case kN => k_asm); (case kn => k_all); (case kX => k_in); (case kK => k_is); (case kr => simp [sizeLine_eq])); intro t' h' F' N' l1 l2; (k_lt2 l2); (replace l1 := allLt_of l1))
  trivial
example : True := by
  k_with "setAttr ref" => (k_here; k_dflt (refine' e_set_new ?kF ?kN ?kn ?kX ?k1 ?k2 ?k3 ?k4 ?kc ?kh ?km ?kr ?kt ?ks ?_; (case kF => k_asm); (case kN => first | k_asm | exact news_off (by k_asm)); (case kn => k_all); (case kX => k_in); (case k1 => rfl); (case k2 => rfl); (case k3 => rfl); (case k4 => rfl); (case kc => k_is); (case kh => rfl); (case km => k_is); (case kr => first | exact refuse136 _ | exact refuse148 _); (case kt => k_is); (case ks => k_is)); intro d' hs' ks' h' F' N' l3 l4; (k_lt2 l4); (replace l3 := allLt_of l3); (try (simp only [AllLt] at l3)); (try (obtain ⟨l5, l3⟩ := l3)); (try (obtain ⟨l6, l3⟩ := l3)))
  trivial
example : True := by
  k_with "setAttr ref" => (k_here; k_dflt (refine' e_set_old ?kF ?kN ?kg ?kn ?kX ?k1 ?k2 ?k3 ?kc ?kh ?km ?kr ?kt ?ks ?k5 ?ke ?k6 ?_; (case kF => k_asm); (case kN => exact news_swap (by k_asm)); (case kg => exact News.get (by k_asm) (.head _)); (case kn => k_all); (case kX => k_in); (case k1 => rfl); (case k2 => rfl); (case k3 => rfl); (case kc => k_is); (case kh => rfl); (case km => k_is); (case kr => first | exact refuse136 _ | exact refuse148 _); (case kt => k_is); (case ks => k_is); (case k5 => (rw [aRefKeyMayBeTheName_at, Bool.and_eq_false_iff]; right; simp [DictEntry.refKey])); (case ke => k_put); (case k6 => simp)); intro h' F' N')
  trivial
example : True := by
  k_with "exec Raise some none" => (k_here; k_dflt (refine' e_exec0 (C := 136) ?kh ?kX ?kK ?_; (case kh => rfl); (case kX => k_asm); (case kK => k_is)))
  trivial
section
variable {prog : Program} {w : World} {p : Program} {loose : List Str} {mean : ExcName → Option Value} {mg mb : Str → Option Value} {A₀ : Around} {base h₀ : Heap} {outer : List Env} {cn : Str} {cs : Scope} {ca L : Addr} {ccd : Value} {cl : List (Str × Addr)} {m : Str → Option Value} {rest : Led} {s : Shared} {Q E : Value → Shared → Prop}
example : True := by
  k_with "call type:str" => first | (refine s_strOf (Str.ofString "60") (by decide +kernel) (by decide +kernel) ?_) | (refine s_strOf (Str.ofString "62") (by decide +kernel) (by decide +kernel) ?_) | (refine s_strOf (Str.ofString "38") (by decide +kernel) (by decide +kernel) ?_) | (refine s_strOf (Str.ofString "39") (by decide +kernel) (by decide +kernel) ?_) | (refine s_strOf (Str.ofString "34") (by decide +kernel) (by decide +kernel) ?_)
  trivial
set_option maxRecDepth 100000 in
set_option maxHeartbeats 1000000 in
theorem S_pref {V : Str} {tV : Tok} {A₀ : Around}
    (B : Below A₀ base outer h₀) (F : Fr h₀ L s.heap m) (X : (hd.heap_1_39 w.params).In h₀) (N : News h₀ L s.heap rest) (TT : Top p loose mean mg mb h₀) (hk : cs.kind = .function)
    (ret : ∀ t h' tk', Fr h₀ L h' m → News h₀ L h' rest → Q (optV (refOf V) t) { s with heap := h', toks := tk' }) :
    wpAny (model prog w) (topAt 860 1760 none (envX cn cs L ca ccd cl) outer) (call (.ref 314) [.str V tV]) Q E s := by
  refine wpAny_call ?_
  k_dflt (refine' enterF ?k1 ?k2 ?k3 ?k4 ?k5 ?kA ?kF ?kK ?k6 ?k7 ?k8 ?k9 ?kB ?_ ?c2 ?c3 ?c4 ?c5; (case kA => exact rfl); (case kF => exact rfl); (case kK => first | exact rfl | assumption); (case k2 => k_asm); (case k1 => k_asm); (case k3 => k_asm); (case k4 => k_asm); (case k5 => k_asm); (case k6 => k_is); (case k7 => k_is); (case k8 => k_room); (case k9 => first | exact BindsTo.of_eq rfl | exact binds_K (by k_in) rfl (by k_is) rfl rfl rfl); (case c5 => decide); (case kB => exact locs rfl); (case c2 => exact rfl); (case c3 => exact rfl); (case c4 => exact rfl); k_whole; intro g' L' h' FG' F' N' B' X' T'; (try dsimp only); (try k_lift B'); (try k_fold))
  k_steps
  · have e := ref_1 (V := V) (by assumption); rw [e] at ret; exact ret _ _ _ (by k_asm) (by k_asm)
  · have e := ref_2 (V := V) (by assumption) (by assumption); rw [e] at ret; exact ret _ _ _ (by k_asm) (by k_asm)
  · have e := ref_3 (V := V) (by assumption) (by assumption) (by assumption); rw [e] at ret; exact ret _ _ _ (by k_asm) (by k_asm)
  · have e := ref_4 (V := V) (by assumption) (by assumption) (by assumption) (by assumption); rw [e] at ret; exact ret _ _ _ (by k_asm) (by k_asm)
  · have e := ref_5 (V := V) (by assumption) (by assumption) (by assumption) (by assumption) (by assumption); rw [e] at ret; exact ret _ _ _ (by k_asm) (by k_asm)
  · have e := ref_6 (V := V) (by assumption) (by assumption) (by assumption) (by assumption) (by assumption); rw [e] at ret; exact ret 0 _ _ (by k_asm) (by k_asm)
end


-- E16
example : True := by
  k_with_none
  trivial
example : True := by
  k_with "subscriptTail Name Constant ref int" => (k_here; with_unfolding_all refine' s_item ?k1 ?k2 ?k3 ?k4 ?k5 ?_ ?k6; (case k1 => k_asm); (case k2 => k_mem); (case k3 => decide); (case k4 => decide); (case k5 => rfl); (case k6 => with_unfolding_all rfl); k_whole)
  trivial
example : True := by
  k_with "binaryOp Mod int int" => (refine s_mod (by omega) ?_)
  trivial
example : True := by
  k_with "binaryOp FloorDiv int int" => (refine s_div (by omega) (by omega) ?_)
  trivial
example : True := by
  k_with "binaryOp Mult int int" => (refine s_mul (by omega) (by omega) ?_)
  trivial
example : True := by
  k_with "getMethod type:Exception" => (k_here; refine' method_type ?F ?X ?m (by decide +kernel) ?e ?h ?_; (case F => k_asm); (case X => k_asm); (case m => exact meta_Exception); (case e => k_dflt k_is); (case h => k_handed))
  trivial
example : True := by
  k_with "call builtin:Exception.__init__" => (k_here; k_dflt (refine' e_init ?kF ?kN ?kn ?kX ?kK ?kr ?_; (case kF => k_asm); (case kN => k_asm); (case kn => k_all); (case kX => k_in); (case kK => k_is); (case kr => simp [sizeLine_eq])); intro t' h' F' N' l1 l2; (k_lt2 l2); (replace l1 := allLt_of l1))
  trivial
example : True := by
  k_with "setAttr ref" => (k_here; k_dflt (refine' e_set_new ?kF ?kN ?kn ?kX ?k1 ?k2 ?k3 ?k4 ?kc ?kh ?km ?kr ?kt ?ks ?_; (case kF => k_asm); (case kN => first | k_asm | exact news_off (by k_asm)); (case kn => k_all); (case kX => k_in); (case k1 => rfl); (case k2 => rfl); (case k3 => rfl); (case k4 => rfl); (case kc => k_is); (case kh => rfl); (case km => k_is); (case kr => first | exact refuse136 _ | exact refuse148 _); (case kt => k_is); (case ks => k_is)); intro d' hs' ks' h' F' N' l3 l4; (k_lt2 l4); (replace l3 := allLt_of l3); (try (simp only [AllLt] at l3)); (try (obtain ⟨l5, l3⟩ := l3)); (try (obtain ⟨l6, l3⟩ := l3)))
  trivial
example : True := by
  k_with "setAttr ref" => (k_here; k_dflt (refine' e_set_old ?kF ?kN ?kg ?kn ?kX ?k1 ?k2 ?k3 ?kc ?kh ?km ?kr ?kt ?ks ?k5 ?ke ?k6 ?_; (case kF => k_asm); (case kN => exact news_swap (by k_asm)); (case kg => exact News.get (by k_asm) (.head _)); (case kn => k_all); (case kX => k_in); (case k1 => rfl); (case k2 => rfl); (case k3 => rfl); (case kc => k_is); (case kh => rfl); (case km => k_is); (case kr => first | exact refuse136 _ | exact refuse148 _); (case kt => k_is); (case ks => k_is); (case k5 => (rw [aRefKeyMayBeTheName_at, Bool.and_eq_false_iff]; right; simp [DictEntry.refKey])); (case ke => k_put); (case k6 => simp)); intro h' F' N')
  trivial
example : True := by
  k_with "exec Raise some none" => (k_here; k_dflt (refine' e_exec0 (C := 136) ?kh ?kX ?kK ?_; (case kh => rfl); (case kX => k_asm); (case kK => k_is)))
  trivial
example : True := by
  k_with "compareOp NotEq str str" => (with_reducible refine s_neSelf ?_)
  trivial
example : True := by
  k_with "ite" => first | (with_reducible refine m_ff ?_) | (with_reducible refine m_tt ?_)
  trivial
example : True := by
  k_with "call ref" => (k_here; (with_reducible show wpAny _ _ (call (Value.ref 314) _) _ _ _); k_dflt (refine' use (D := 860) (U := 1760) ?u1 ?u2 ?u3 ?u4 (S_pref ?kB ?kF ?kX ?kN ?kT ?kk ?_); (case u1 => exact rfl); (case u2 => exact rfl); (case u3 => exact Nat.le_of_ble_eq_true rfl); (case u4 => exact Nat.le_of_ble_eq_true rfl); (case kF => k_asm); (case kN => k_asm); (case kB => k_asm); (case kX => k_asm); (case kT => k_asm); (case kk => first | exact rfl | assumption)); intro t' h' tk' F' N'; rw [hr]; simp only [optV])
  trivial
section
variable {prog : Program} {w : World} {p : Program} {loose : List Str} {mean : ExcName → Option Value} {mg mb : Str → Option Value} {A₀ : Around} {base h₀ : Heap} {outer : List Env} {cn : Str} {cs : Scope} {ca L : Addr} {ccd : Value} {cl : List (Str × Addr)} {m : Str → Option Value} {rest : Led} {s : Shared} {Q E : Value → Shared → Prop}
set_option maxRecDepth 100000 in
set_option maxHeartbeats 400000 in
theorem T_pref {n : Str} {tn td : Tok} {v2 : Value} {pos1 pos2 pos3 pos4 pos5 : Pos} {cl0 : List (Str × Addr)} {I C D : Addr} {oI oC : Obj} {m₂ : Str → Option Value} {A₀ : Around}
    (B : Below A₀ base outer h₀) (F : Fr h₀ L s.heap m) (X : (hd.heap_1_39 w.params).In h₀) (N : News h₀ L s.heap ((I, oI) :: (C, oC) :: (D, LCg.lst []) :: rest)) (TT : Top p loose mean mg mb h₀) (hk : cs.kind = .function)
    (hv : v2 = optV (refOf n) td) (hC : LCg.NsObj oC m₂) (hn : m₂ (Str.ofString "name") = some (.str n tn)) (hd : m₂ (Str.ofString "due") = some v2) :
    wpAny (model prog w) (topAt 840 1740 none (envX cn cs L ca ccd cl) outer) (PySem.isTrue (((Expr.Name (Str.ofString "plain_reference") pos1).Call [Expr.Name (Str.ofString "name") pos2] [] pos3).Compare [CmpOp.NotEq] [Expr.Name (Str.ofString "due") pos4] pos5)
        (compEnvC { kind := ScopeKind.function, names := [(Str.ofString ".0", NameKind.local), (Str.ofString "name", NameKind.local), (Str.ofString "due", NameKind.local), (Str.ofString "plain_reference", NameKind.globalImplicit)], isGenerator := false, isCoroutine := false } cl0 C (envX cn cs L ca ccd cl))
        (eval (((Expr.Name (Str.ofString "plain_reference") pos1).Call [Expr.Name (Str.ofString "name") pos2] [] pos3).Compare [CmpOp.NotEq] [Expr.Name (Str.ofString "due") pos4] pos5)
        (compEnvC { kind := ScopeKind.function, names := [(Str.ofString ".0", NameKind.local), (Str.ofString "name", NameKind.local), (Str.ofString "due", NameKind.local), (Str.ofString "plain_reference", NameKind.globalImplicit)], isGenerator := false, isCoroutine := false } cl0 C (envX cn cs L ca ccd cl))))
      (fun b s₃ => b = false ∧ ∃ h' tk', s₃ = { s with heap := h', toks := tk' } ∧ Fr h₀ L h' m ∧ News h₀ L h' ((I, oI) :: (C, oC) :: (D, LCg.lst []) :: rest)) E s := by
  subst hv
  cases hr : refOf n with
  | none =>
    rw [hr] at hd
    simp only [optV] at hd
    k_steps
    all_goals k_asm
  | some d =>
    rw [hr] at hd
    simp only [optV] at hd
    k_steps
    all_goals k_asm
end


-- E17
example : True := by
  k_with_none
  trivial
example : True := by
  k_with "subscriptTail Name Constant ref int" => (k_here; with_unfolding_all refine' s_item ?k1 ?k2 ?k3 ?k4 ?k5 ?_ ?k6; (case k1 => k_asm); (case k2 => k_mem); (case k3 => decide); (case k4 => decide); (case k5 => rfl); (case k6 => with_unfolding_all rfl); k_whole)
  trivial
example : True := by
  k_with "binaryOp Mod int int" => (refine s_mod (by omega) ?_)
  trivial
example : True := by
  k_with "binaryOp FloorDiv int int" => (refine s_div (by omega) (by omega) ?_)
  trivial
example : True := by
  k_with "binaryOp Mult int int" => (refine s_mul (by omega) (by omega) ?_)
  trivial
example : True := by
  k_with "getMethod type:Exception" => (k_here; refine' method_type ?F ?X ?m (by decide +kernel) ?e ?h ?_; (case F => k_asm); (case X => k_asm); (case m => exact meta_Exception); (case e => k_dflt k_is); (case h => k_handed))
  trivial
example : True := by
  k_with "call builtin:Exception.__init__" => (k_here; k_dflt (refine' e_init ?kF ?kN ?kn ?kX ?kK ?kr ?_; (case kF => k_asm); (case kN => k_asm); (case kn => k_all); (case kX => k_in); (case kK => k_is); (case kr => simp [sizeLine_eq])); intro t' h' F' N' l1 l2; (k_lt2 l2); (replace l1 := allLt_of l1))
  trivial
example : True := by
  k_with "setAttr ref" => (k_here; k_dflt (refine' e_set_new ?kF ?kN ?kn ?kX ?k1 ?k2 ?k3 ?k4 ?kc ?kh ?km ?kr ?kt ?ks ?_; (case kF => k_asm); (case kN => first | k_asm | exact news_off (by k_asm)); (case kn => k_all); (case kX => k_in); (case k1 => rfl); (case k2 => rfl); (case k3 => rfl); (case k4 => rfl); (case kc => k_is); (case kh => rfl); (case km => k_is); (case kr => first | exact refuse136 _ | exact refuse148 _); (case kt => k_is); (case ks => k_is)); intro d' hs' ks' h' F' N' l3 l4; (k_lt2 l4); (replace l3 := allLt_of l3); (try (simp only [AllLt] at l3)); (try (obtain ⟨l5, l3⟩ := l3)); (try (obtain ⟨l6, l3⟩ := l3)))
  trivial
example : True := by
  k_with "setAttr ref" => (k_here; k_dflt (refine' e_set_old ?kF ?kN ?kg ?kn ?kX ?k1 ?k2 ?k3 ?kc ?kh ?km ?kr ?kt ?ks ?k5 ?ke ?k6 ?_; (case kF => k_asm); (case kN => exact news_swap (by k_asm)); (case kg => exact News.get (by k_asm) (.head _)); (case kn => k_all); (case kX => k_in); (case k1 => rfl); (case k2 => rfl); (case k3 => rfl); (case kc => k_is); (case kh => rfl); (case km => k_is); (case kr => first | exact refuse136 _ | exact refuse148 _); (case kt => k_is); (case ks => k_is); (case k5 => (rw [aRefKeyMayBeTheName_at, Bool.and_eq_false_iff]; right; simp [DictEntry.refKey])); (case ke => k_put); (case k6 => simp)); intro h' F' N')
  trivial
example : True := by
  k_with "exec Raise some none" => (k_here; k_dflt (refine' e_exec0 (C := 136) ?kh ?kX ?kK ?_; (case kh => rfl); (case kX => k_asm); (case kK => k_is)))
  trivial
example : True := by
  k_with "compareOp NotEq str str" => (with_reducible refine s_neSelf ?_)
  trivial
example : True := by
  k_with "ite" => first | (with_reducible refine m_ff ?_) | (with_reducible refine m_tt ?_)
  trivial
example : True := by
  k_with "call ref" => (k_here; (with_reducible show wpAny _ _ (call (Value.ref 328) _) _ _ _); k_dflt (refine' use (D := 720) (U := 1620) ?u1 ?u2 ?u3 ?u4 (S_withoutV ?kB ?kF ?kX ?kN ?kT ?kk ?kx ?kt ?kv hb ?_); (case u1 => exact rfl); (case u2 => exact rfl); (case u3 => exact Nat.le_of_ble_eq_true rfl); (case u4 => exact Nat.le_of_ble_eq_true rfl); (case kF => k_asm); (case kN => k_asm); (case kB => k_asm); (case kX => k_asm); (case kT => k_asm); (case kk => first | exact rfl | assumption); (case kx => assumption); (case kt => assumption); (case kv => assumption)); intro t' h' tk' F' N')
  trivial
section
variable {prog : Program} {w : World} {p : Program} {loose : List Str} {mean : ExcName → Option Value} {mg mb : Str → Option Value} {A₀ : Around} {base h₀ : Heap} {outer : List Env} {cn : Str} {cs : Scope} {ca L : Addr} {ccd : Value} {cl : List (Str × Addr)} {m : Str → Option Value} {rest : Led} {s : Shared} {Q E : Value → Shared → Prop}
set_option maxRecDepth 100000 in
set_option maxHeartbeats 400000 in
theorem T_bare {n : Str} {tn : Tok} {pos1 pos2 pos3 pos4 pos5 : Pos} {cl0 : List (Str × Addr)} {I C D : Addr} {oI oC : Obj} {m₂ : Str → Option Value} {A₀ : Around}
    (B : Below A₀ base outer h₀) (F : Fr h₀ L s.heap m) (X : (hd.heap_1_39 w.params).In h₀) (N : News h₀ L s.heap ((I, oI) :: (C, oC) :: (D, LCg.lst []) :: rest)) (TT : Top p loose mean mg mb h₀) (hk : cs.kind = .function)
    (XB : (hd.heap_1_39 w.params).In base) (TB : Top p loose mean mg mb base) (hV : n.length ≤ 10000) (hb : bare n = some n) (hC : LCg.NsObj oC m₂) (hn : m₂ (Str.ofString "text") = some (.str n tn)) :
    wpAny (model prog w) (topAt 700 1600 none (envX cn cs L ca ccd cl) outer) (PySem.isTrue (((Expr.Name (Str.ofString "without_head") pos1).Call [Expr.Name (Str.ofString "text") pos2] [] pos3).Compare [CmpOp.NotEq] [Expr.Name (Str.ofString "text") pos4] pos5) (compEnvC { kind := ScopeKind.function, names := [(Str.ofString ".0", NameKind.local), (Str.ofString "text", NameKind.local), (Str.ofString "without_head", NameKind.globalImplicit)], isGenerator := false, isCoroutine := false } cl0 C (envX cn cs L ca ccd cl)) (eval (((Expr.Name (Str.ofString "without_head") pos1).Call [Expr.Name (Str.ofString "text") pos2] [] pos3).Compare [CmpOp.NotEq] [Expr.Name (Str.ofString "text") pos4] pos5) (compEnvC { kind := ScopeKind.function, names := [(Str.ofString ".0", NameKind.local), (Str.ofString "text", NameKind.local), (Str.ofString "without_head", NameKind.globalImplicit)], isGenerator := false, isCoroutine := false } cl0 C (envX cn cs L ca ccd cl))))
      (fun b s₃ => b = false ∧ ∃ h' tk', s₃ = { s with heap := h', toks := tk' } ∧ Fr h₀ L h' m ∧ News h₀ L h' ((I, oI) :: (C, oC) :: (D, LCg.lst []) :: rest)) E s := by
  k_steps
  all_goals k_asm
end


-- E18
example : True := by
  k_with_none
  trivial
example : True := by
  k_with "subscriptTail Name Constant ref int" => (k_here; with_unfolding_all refine' s_item ?k1 ?k2 ?k3 ?k4 ?k5 ?_ ?k6; (case k1 => k_asm); (case k2 => k_mem); (case k3 => decide); (case k4 => decide); (case k5 => rfl); (case k6 => with_unfolding_all rfl); k_whole)
  trivial
example : True := by
  k_with "binaryOp Mod int int" => (refine s_mod (by omega) ?_)
  trivial
example : True := by
  k_with "binaryOp FloorDiv int int" => (refine s_div (by omega) (by omega) ?_)
  trivial
example : True := by
  k_with "binaryOp Mult int int" => (refine s_mul (by omega) (by omega) ?_)
  trivial
example : True := by
  k_with "getMethod type:Exception" => (k_here; refine' method_type ?F ?X ?m (by decide +kernel) ?e ?h ?_; (case F => k_asm); (case X => k_asm); (case m => exact meta_Exception); (case e => k_dflt k_is); (case h => k_handed))
  trivial
example : True := by
  k_with "call builtin:Exception.__init__" => (k_here; k_dflt (refine' e_init ?kF ?kN ?kn ?kX ?kK ?kr ?_; (case kF => k_asm); (case kN => k_asm); (case kn => k_all); (case kX => k_in); (case kK => k_is); (case kr => simp [sizeLine_eq])); intro t' h' F' N' l1 l2; (k_lt2 l2); (replace l1 := allLt_of l1))
  trivial
example : True := by
  k_with "setAttr ref" => (k_here; k_dflt (refine' e_set_new ?kF ?kN ?kn ?kX ?k1 ?k2 ?k3 ?k4 ?kc ?kh ?km ?kr ?kt ?ks ?_; (case kF => k_asm); (case kN => first | k_asm | exact news_off (by k_asm)); (case kn => k_all); (case kX => k_in); (case k1 => rfl); (case k2 => rfl); (case k3 => rfl); (case k4 => rfl); (case kc => k_is); (case kh => rfl); (case km => k_is); (case kr => first | exact refuse136 _ | exact refuse148 _); (case kt => k_is); (case ks => k_is)); intro d' hs' ks' h' F' N' l3 l4; (k_lt2 l4); (replace l3 := allLt_of l3); (try (simp only [AllLt] at l3)); (try (obtain ⟨l5, l3⟩ := l3)); (try (obtain ⟨l6, l3⟩ := l3)))
  trivial
example : True := by
  k_with "setAttr ref" => (k_here; k_dflt (refine' e_set_old ?kF ?kN ?kg ?kn ?kX ?k1 ?k2 ?k3 ?kc ?kh ?km ?kr ?kt ?ks ?k5 ?ke ?k6 ?_; (case kF => k_asm); (case kN => exact news_swap (by k_asm)); (case kg => exact News.get (by k_asm) (.head _)); (case kn => k_all); (case kX => k_in); (case k1 => rfl); (case k2 => rfl); (case k3 => rfl); (case kc => k_is); (case kh => rfl); (case km => k_is); (case kr => first | exact refuse136 _ | exact refuse148 _); (case kt => k_is); (case ks => k_is); (case k5 => (rw [aRefKeyMayBeTheName_at, Bool.and_eq_false_iff]; right; simp [DictEntry.refKey])); (case ke => k_put); (case k6 => simp)); intro h' F' N')
  trivial
example : True := by
  k_with "exec Raise some none" => (k_here; k_dflt (refine' e_exec0 (C := 136) ?kh ?kX ?kK ?_; (case kh => rfl); (case kX => k_asm); (case kK => k_is)))
  trivial
section
variable {prog : Program} {w : World} {p : Program} {loose : List Str} {mean : ExcName → Option Value} {mg mb : Str → Option Value} {A₀ : Around} {base h₀ : Heap} {outer : List Env} {cn : Str} {cs : Scope} {ca L : Addr} {ccd : Value} {cl : List (Str × Addr)} {m : Str → Option Value} {rest : Led} {s : Shared} {Q E : Value → Shared → Prop}
set_option maxRecDepth 100000 in
set_option maxHeartbeats 1000000 in
theorem S_pool {l : Addr} {vs : List Value} {ns : List Int} {A₀ : Around}
    (B : Below A₀ base outer h₀) (F : Fr h₀ L s.heap m) (X : (hd.heap_1_39 w.params).In h₀) (N : News h₀ L s.heap rest) (TT : Top p loose mean mg mb h₀) (hk : cs.kind = .function)
    (hl : base.IsList l vs.toArray) (hI : IntsAre vs ns) (hn : ns.length ≤ 63)
    (ret : ∀ z a b ta tb h' tk', 0 ≤ a → 0 ≤ b → b ≤ 2147483647 → Fr h₀ L h' m → News h₀ L h' ((z, listOf #[.int a ta, .int b tb] 0) :: rest) → AllLt z rest → Q (.ref z) { s with heap := h', toks := tk' }) :
    wpAny (model prog w) (topAt 860 1760 none (envX cn cs L ca ccd cl) outer) (call (.ref 342) [.ref l]) Q E s := by
  refine wpAny_call ?_
  k_dflt (refine' code_def ?k1 ?k2 ?k3 ?k4 ?k5 ?kA ?kF ?kK ?k6 ?k7 ?k8 ?k9 ?kB ?_ ?c2 ?c3 ?c4 ?c5; (case kA => exact rfl); (case kF => exact rfl); (case kK => first | exact rfl | assumption); (case k2 => k_asm); (case k1 => k_asm); (case k3 => k_asm); (case k4 => k_asm); (case k5 => k_asm); (case k6 => k_is); (case k7 => k_is); (case k8 => k_room); (case k9 => first | exact BindsTo.of_eq rfl | exact binds_K (by k_in) rfl (by k_is) rfl rfl rfl); (case c5 => decide); (case kB => exact locs rfl); (case c2 => exact rfl); (case c3 => exact rfl); (case c4 => exact rfl); k_whole; intro g' L' h' FG' F' N' B' X' T'; (try dsimp only); (try k_lift B'); (try k_fold))
  k_steps
  · (with_reducible rename News h₀ L _ (_ :: _) => NX)
    (rename _ ∧ AllLt _ rest => hzz)
    refine ret _ _ _ _ _ _ _ ?_ ?_ ?_ (by k_asm) (news_app (a := [_]) (news_one NX (List.Mem.head _)) (news_tl (news_tl NX))) hzz.2 <;> omega
  · rename decide _ = false => hz
    obtain ⟨c, r, rfl⟩ : ∃ c r, ns = c :: r := by
      cases ns with
      | nil => simp at hz
      | cons c r => exact ⟨c, r, rfl⟩
    obtain ⟨t, vs', rfl⟩ : ∃ t vs', vs = .int c t :: vs' := by cases hI; exact ⟨_, _, rfl⟩
    k_dflt (refine' s_itemL (v := .int c t) ?kl ?k0 ?k1 ?k2 ?_)
    case kl => exact Fr.lst (by k_asm) (by assumption)
    case k0 => decide
    case k1 => decide
    case k2 => exact rfl
    k_steps
    all_goals (
      (with_reducible rename News h₀ L _ (_ :: _) => NX)
      (rename _ ∧ AllLt _ rest => hzz)
      refine ret _ _ _ _ _ _ _ ?_ ?_ ?_ (by k_asm) (news_app (a := [_]) (news_one NX (List.Mem.head _)) (news_tl (news_tl NX))) hzz.2 <;> omega)
end


-- E19
example : True := by
  k_with_none
  trivial
example : True := by
  k_with "subscriptTail Name Constant ref int" => (k_here; with_unfolding_all refine' s_item ?k1 ?k2 ?k3 ?k4 ?k5 ?_ ?k6; (case k1 => k_asm); (case k2 => k_mem); (case k3 => decide); (case k4 => decide); (case k5 => rfl); (case k6 => with_unfolding_all rfl); k_whole)
  trivial
example : True := by
  k_with "binaryOp Mod int int" => (refine s_mod (by omega) ?_)
  trivial
example : True := by
  k_with "binaryOp FloorDiv int int" => (refine s_div (by omega) (by omega) ?_)
  trivial
example : True := by
  k_with "binaryOp Mult int int" => (refine s_mul (by omega) (by omega) ?_)
  trivial
example : True := by
  k_with "getMethod type:Exception" => (k_here; refine' method_type ?F ?X ?m (by decide +kernel) ?e ?h ?_; (case F => k_asm); (case X => k_asm); (case m => exact meta_Exception); (case e => k_dflt k_is); (case h => k_handed))
  trivial
example : True := by
  k_with "call builtin:Exception.__init__" => (k_here; k_dflt (refine' e_init ?kF ?kN ?kn ?kX ?kK ?kr ?_; (case kF => k_asm); (case kN => k_asm); (case kn => k_all); (case kX => k_in); (case kK => k_is); (case kr => simp [sizeLine_eq])); intro t' h' F' N' l1 l2; (k_lt2 l2); (replace l1 := allLt_of l1))
  trivial
example : True := by
  k_with "setAttr ref" => (k_here; k_dflt (refine' e_set_new ?kF ?kN ?kn ?kX ?k1 ?k2 ?k3 ?k4 ?kc ?kh ?km ?kr ?kt ?ks ?_; (case kF => k_asm); (case kN => first | k_asm | exact news_off (by k_asm)); (case kn => k_all); (case kX => k_in); (case k1 => rfl); (case k2 => rfl); (case k3 => rfl); (case k4 => rfl); (case kc => k_is); (case kh => rfl); (case km => k_is); (case kr => first | exact refuse136 _ | exact refuse148 _); (case kt => k_is); (case ks => k_is)); intro d' hs' ks' h' F' N' l3 l4; (k_lt2 l4); (replace l3 := allLt_of l3); (try (simp only [AllLt] at l3)); (try (obtain ⟨l5, l3⟩ := l3)); (try (obtain ⟨l6, l3⟩ := l3)))
  trivial
example : True := by
  k_with "setAttr ref" => (k_here; k_dflt (refine' e_set_old ?kF ?kN ?kg ?kn ?kX ?k1 ?k2 ?k3 ?kc ?kh ?km ?kr ?kt ?ks ?k5 ?ke ?k6 ?_; (case kF => k_asm); (case kN => exact news_swap (by k_asm)); (case kg => exact News.get (by k_asm) (.head _)); (case kn => k_all); (case kX => k_in); (case k1 => rfl); (case k2 => rfl); (case k3 => rfl); (case kc => k_is); (case kh => rfl); (case km => k_is); (case kr => first | exact refuse136 _ | exact refuse148 _); (case kt => k_is); (case ks => k_is); (case k5 => (rw [aRefKeyMayBeTheName_at, Bool.and_eq_false_iff]; right; simp [DictEntry.refKey])); (case ke => k_put); (case k6 => simp)); intro h' F' N')
  trivial
example : True := by
  k_with "exec Raise some none" => (k_here; k_dflt (refine' e_exec0 (C := 136) ?kh ?kX ?kK ?_; (case kh => rfl); (case kX => k_asm); (case kK => k_is)))
  trivial
example : True := by
  k_with "call ref" => (k_here; (with_reducible show wpAny _ _ (call (Value.ref 356) _) _ _ _); refine held ?_)
  trivial
example : True := by
  k_with "eval Name" => (k_here; k_dflt (refine' ld_cell ?lN ?lm ?ld ?lc ?_ ?lk ?lx; (case lx => assumption); (case lN => k_asm); (case lc => exact rfl); (case lm => repeat (first | exact List.Mem.head _ | apply List.Mem.tail)); (case ld => assumption); (case lk => exact rfl)))
  trivial
section
variable {prog : Program} {w : World} {p : Program} {loose : List Str} {mean : ExcName → Option Value} {mg mb : Str → Option Value} {A₀ : Around} {base h₀ : Heap} {outer : List Env} {cn : Str} {cs : Scope} {ca L : Addr} {ccd : Value} {cl : List (Str × Addr)} {m : Str → Option Value} {rest : Led} {s : Shared} {Q E : Value → Shared → Prop}
set_option maxRecDepth 100000 in
set_option maxHeartbeats 400000 in
theorem T_body {A : Around} {x pl cS cP cT : Addr} {oS oP oT : Obj} {a b : Int} {ta tb : Tok} {n0 n' : Nat} {vs : List Value} {pos1 pos2 pos3 pos4 : Pos} {k : Nat} {P : Nat → Value → Prop} {Fin : List Value → Led → Prop} {A₀ : Around}
    (hfA : A.frames = some (envX cn cs L ca ccd cl :: outer)) (hhA : A.handled = none) (hdA : A.depth ≤ 820) (huA : A.units ≤ 1720)
    (B : Below A₀ base outer h₀) (X : (hd.heap_1_39 w.params).In h₀) (TT : Top p loose mean mg mb h₀) (hk : cs.kind = .function)
    (dS : oS.data = .cell (some (.ref x))) (dP : oP.data = .cell (some (.ref pl))) (a1 : pl ≠ x) (a2 : cP ≠ x) (a3 : cS ≠ x) (a4 : cT ≠ x)
    (hkS : (envX cn cs L ca ccd cl).kindOf (Str.ofString "source") = some .cell) (hkP : (envX cn cs L ca ccd cl).kindOf (Str.ofString "pieces") = some .cell) (v0 : 0 < vs.length) (v1 : vs.length ≤ 1000) (v2 : vs.all strV = true) (ha : 0 ≤ a) (hb : 0 ≤ b) (hb2 : b ≤ 2147483647)
    (hfin : ∀ ys a' ta' b' tb', ys.length = k → (∀ y ∈ ys, ∃ w tw, y = Value.str w tw ∧ w ∈ strsOf vs) → Fin ys [(x, listOf #[.int a' ta', .int b' tb'] n0), (pl, listOf vs.toArray n'), (cP, oP), (cS, oS), (cT, oT)]) :
    LCg.CompRest prog w A h₀ L m (envX cn cs L ca ccd cl) ((Expr.Name (Str.ofString "_law_one") pos1).Call [Expr.Name (Str.ofString "source") pos2, Expr.Name (Str.ofString "pieces") pos3] [] pos4) (Str.ofString "turn")
      { kind := ScopeKind.function, names := [(Str.ofString ".0", NameKind.local), (Str.ofString "turn", NameKind.local), (Str.ofString "_law_one", NameKind.globalImplicit), (Str.ofString "pieces", NameKind.free), (Str.ofString "source", NameKind.free)], isGenerator := false, isCoroutine := false }
      [(Str.ofString "source", cS), (Str.ofString "pieces", cP)] s (fun _ => True) P Fin k 0 [] [(x, listOf #[.int a ta, .int b tb] n0), (pl, listOf vs.toArray n'), (cP, oP), (cS, oS), (cT, oT)] := by
  refine rest_inv (fun i ys nx => ys.length = i ∧ (∀ y ∈ ys, ∃ w tw, y = Value.str w tw ∧ w ∈ strsOf vs) ∧ ∃ a' ta' b' tb', 0 ≤ a' ∧ 0 ≤ b' ∧ b' ≤ 2147483647 ∧ nx = [(x, listOf #[.int a' ta', .int b' tb'] n0), (pl, listOf vs.toArray n'), (cP, oP), (cS, oS), (cT, oT)]) k ?_ ?_ k 0 [] _ (by omega) ⟨rfl, (fun y hy => nomatch hy), a, ta, b, tb, ha, hb, hb2, rfl⟩
  · rintro i ys nx hi ⟨hlen, hys, a, ta, b, tb, ha, hb, hb2, rfl⟩ v I oI C oC D m₂ h tk E' hv hC hx F N off ne
    refine use (D := 820) (U := 1720) hfA hhA hdA huA ?_
    have off3 := off.mem
    have b1 := (off3 _ (.head _)).1
    have b2 := (off3 _ (.head _)).2.1
    have b3 := (off3 _ (.head _)).2.2
    dsimp only at b1 b2 b3
    obtain ⟨k1, k2⟩ := body_kinds (C := C) (cl := [(Str.ofString "source", cS), (Str.ofString "pieces", cP)]) (env := envX cn cs L ca ccd cl) hk hkS hkP
    k_steps
    refine held' ?_
    k_dflt (refine' use (D := 860) (U := 1760) ?u1 ?u2 ?u3 ?u4 (S_one (vs := vs) (n' := n') (rest := [(I, oI), (C, oC), (D, LCg.lst ys), (pl, listOf vs.toArray n'), (cP, oP), (cS, oS), (cT, oT)]) ?kB ?kF ?kX ?kN ?kT ?kk ?hx ?ht v0 v1 ha hb hb2 ?_))
    case u1 => exact rfl
    case u2 => exact rfl
    case u3 => exact Nat.le_of_ble_eq_true rfl
    case u4 => exact Nat.le_of_ble_eq_true rfl
    case kB => k_asm
    case kF => k_asm
    case kX => k_asm
    case kT => k_asm
    case kk => first | exact rfl | assumption
    case kN => exact cb_drop (by k_asm) (by kcj_all)
    case hx => exact List.forall_mem_cons.mpr ⟨b1.symm, List.forall_mem_cons.mpr ⟨b2.symm, List.forall_mem_cons.mpr ⟨b3.symm, List.forall_mem_cons.mpr ⟨a1, List.forall_mem_cons.mpr ⟨a2, List.forall_mem_cons.mpr ⟨a3, List.forall_mem_cons.mpr ⟨a4, List.forall_mem_nil _⟩⟩⟩⟩⟩⟩⟩
    case ht => exact .tail _ (.tail _ (.tail _ (.head _)))
    intro y hy a' ta' b' tb' h' tk' ha' hb' hb2' F9 N9
    obtain ⟨wv, tw, rfl, hw⟩ := strs_mem hy v2
    have hnews : ∀ p ∈ [(x, listOf #[.int a' ta', .int b' tb'] n0), (pl, listOf vs.toArray n'), (cP, oP), (cS, oS), (cT, oT)], p.1 ≠ I ∧ p.1 ≠ C ∧ p.1 ≠ D := fun p hp => by
      rcases List.mem_cons.mp hp with rfl | hp
      · exact ⟨b1, b2, b3⟩
      · exact off3 p (.tail _ hp)
    exact LCg.CompEnd.intro F9 N9 [(x, listOf #[.int a' ta', .int b' tb'] n0), (pl, listOf vs.toArray n'), (cP, oP), (cS, oS), (cT, oT)] (by kcj_all) (LCg.Off3.of hnews) trivial
      ⟨by simp [hlen], fun z hz => by
        rcases List.mem_append.mp hz with hz | hz
        · exact hys z hz
        · rw [List.mem_singleton.mp hz]; exact ⟨wv, tw, rfl, hw⟩, a', ta', b', tb', ha', hb', hb2', rfl⟩
  · rintro ys nx ⟨hlen, hys, a', ta', b', tb', _, _, _, rfl⟩
    exact hfin ys a' ta' b' tb' hlen hys
end


-- LawT
example : True := by
  k_with_none
  trivial
example : True := by
  k_with "subscriptTail Name Constant ref int" => (k_here; with_unfolding_all refine' s_item ?k1 ?k2 ?k3 ?k4 ?k5 ?_ ?k6; (case k1 => k_asm); (case k2 => k_mem); (case k3 => decide); (case k4 => decide); (case k5 => rfl); (case k6 => with_unfolding_all rfl); k_whole)
  trivial
example : True := by
  k_with "binaryOp Mod int int" => (refine s_mod (by omega) ?_)
  trivial
example : True := by
  k_with "binaryOp FloorDiv int int" => (refine s_div (by omega) (by omega) ?_)
  trivial
example : True := by
  k_with "binaryOp Mult int int" => (refine s_mul (by omega) (by omega) ?_)
  trivial
example : True := by
  k_with "getMethod type:Exception" => (k_here; refine' method_type ?F ?X ?m (by decide +kernel) ?e ?h ?_; (case F => k_asm); (case X => k_asm); (case m => exact meta_Exception); (case e => k_dflt k_is); (case h => k_handed))
  trivial
example : True := by
  k_with "call builtin:Exception.__init__" => (k_here; k_dflt (refine' e_init ?kF ?kN ?kn ?kX ?kK ?kr ?_; (case kF => k_asm); (case kN => k_asm); (case kn => k_all); (case kX => k_in); (case kK => k_is); (case kr => simp [sizeLine_eq])); intro t' h' F' N' l1 l2; (k_lt2 l2); (replace l1 := allLt_of l1))
  trivial
example : True := by
  k_with "setAttr ref" => (k_here; k_dflt (refine' e_set_new ?kF ?kN ?kn ?kX ?k1 ?k2 ?k3 ?k4 ?kc ?kh ?km ?kr ?kt ?ks ?_; (case kF => k_asm); (case kN => first | k_asm | exact news_off (by k_asm)); (case kn => k_all); (case kX => k_in); (case k1 => rfl); (case k2 => rfl); (case k3 => rfl); (case k4 => rfl); (case kc => k_is); (case kh => rfl); (case km => k_is); (case kr => first | exact refuse136 _ | exact refuse148 _); (case kt => k_is); (case ks => k_is)); intro d' hs' ks' h' F' N' l3 l4; (k_lt2 l4); (replace l3 := allLt_of l3); (try (simp only [AllLt] at l3)); (try (obtain ⟨l5, l3⟩ := l3)); (try (obtain ⟨l6, l3⟩ := l3)))
  trivial
example : True := by
  k_with "setAttr ref" => (k_here; k_dflt (refine' e_set_old ?kF ?kN ?kg ?kn ?kX ?k1 ?k2 ?k3 ?kc ?kh ?km ?kr ?kt ?ks ?k5 ?ke ?k6 ?_; (case kF => k_asm); (case kN => exact news_swap (by k_asm)); (case kg => exact News.get (by k_asm) (.head _)); (case kn => k_all); (case kX => k_in); (case k1 => rfl); (case k2 => rfl); (case k3 => rfl); (case kc => k_is); (case kh => rfl); (case km => k_is); (case kr => first | exact refuse136 _ | exact refuse148 _); (case kt => k_is); (case ks => k_is); (case k5 => (rw [aRefKeyMayBeTheName_at, Bool.and_eq_false_iff]; right; simp [DictEntry.refKey])); (case ke => k_put); (case k6 => simp)); intro h' F' N')
  trivial
example : True := by
  k_with "exec Raise some none" => (k_here; k_dflt (refine' e_exec0 (C := 136) ?kh ?kX ?kK ?_; (case kh => rfl); (case kX => k_asm); (case kK => k_is)))
  trivial
example : True := by
  k_with "call ref" => (k_here; (with_reducible show wpAny _ _ (call (Value.ref 335) _) _ _ _); refine held ?_)
  trivial
example : True := by
  k_with "call ref" => (k_here; (with_reducible show wpAny _ _ (call (Value.ref 328) _) _ _ _); refine held ?_)
  trivial
example : True := by
  k_with "call ref" => (k_here; (with_reducible show wpAny _ _ (call (Value.ref 368) _) _ _ _); refine held ?_)
  trivial
example : True := by
  k_with "call ref" => (k_here; (with_reducible show wpAny _ _ (call (Value.ref 356) _) _ _ _); refine held ?_)
  trivial
example : True := by
  k_with "call ref" => (k_here; (with_reducible show wpAny _ _ (call (Value.ref 349) _) _ _ _); refine held ?_)
  trivial
example : True := by
  k_with "call ref" => (k_here; (with_reducible show wpAny _ _ (call (Value.ref 396) _) _ _ _); refine held ?_)
  trivial
example : True := by
  k_with "call ref" => (k_here; (with_reducible show wpAny _ _ (call (Value.ref 342) _) _ _ _); refine held ?_)
  trivial
example : True := by
  k_with "call ref" => (k_here; (with_reducible show wpAny _ _ (call (Value.ref 335) _) _ _ _); k_dflt (refine' use (D := 700) (U := 1600) ?u1 ?u2 ?u3 ?u4 (S_outerV ?kB ?kF ?kX ?kN ?kT ?kk ?kx ?kt ?kv ?kh ?_); (case u1 => exact rfl); (case u2 => exact rfl); (case u3 => exact Nat.le_of_ble_eq_true rfl); (case u4 => exact Nat.le_of_ble_eq_true rfl); (case kF => k_asm); (case kN => k_asm); (case kB => k_asm); (case kX => k_asm); (case kT => k_asm); (case kk => first | exact rfl | assumption); (case kx => k_asm); (case kt => k_asm); (case kh => first | exact outer_lit1 | exact outer_lit2); (case kv => decide)); intro t0' h' tk' F' N')
  trivial
example : True := by
  k_with "call ref" => (k_here; (with_reducible show wpAny _ _ (call (Value.ref 328) _) _ _ _); k_dflt (refine' use (D := 720) (U := 1620) ?u1 ?u2 ?u3 ?u4 (S_withoutV ?kB ?kF ?kX ?kN ?kT ?kk ?kx ?kt ?kv ?kh ?_); (case u1 => exact rfl); (case u2 => exact rfl); (case u3 => exact Nat.le_of_ble_eq_true rfl); (case u4 => exact Nat.le_of_ble_eq_true rfl); (case kF => k_asm); (case kN => k_asm); (case kB => k_asm); (case kX => k_asm); (case kT => k_asm); (case kk => first | exact rfl | assumption); (case kx => k_asm); (case kt => k_asm); (case kh => first | exact bare_lit1 | exact bare_lit2 | exact bare_lit3 | exact bare_lit4); (case kv => decide)); intro t0' h' tk' F' N')
  trivial
example : True := by
  k_with "compareOp NotEq str str" => (with_reducible refine s_neSelf ?_)
  trivial
example : True := by
  k_with "ite" => first | (with_reducible refine m_ff ?_) | (with_reducible refine m_tt ?_)
  trivial
example : True := by
  k_with "call ref" => (k_here; (with_reducible show wpAny _ _ (call (Value.ref 342) _) _ _ _); k_dflt (refine' use (D := 860) (U := 1760) ?u1 ?u2 ?u3 ?u4 (S_pool ?kB ?kF ?kX ?kN ?kT ?kk ?kl ?ki ?kn ?_); (case u1 => exact rfl); (case u2 => exact rfl); (case u3 => exact Nat.le_of_ble_eq_true rfl); (case u4 => exact Nat.le_of_ble_eq_true rfl); (case kF => k_asm); (case kB => k_asm); (case kX => k_asm); (case kT => k_asm); (case kk => first | exact rfl | assumption); (case kl => assumption); (case ki => assumption); (case kn => omega); (case kN => exact news_tl (news_tl (by k_asm)))); intro zS a' b' ta' tb' h' tk' ha0 hb0 hb1 F' N' l1; (try simp only [AllLt] at l1))
  trivial
example : True := by
  k_with "call ref" => (k_here; (with_reducible show wpAny _ _ (call (Value.ref 368) _) _ _ _); k_dflt (refine' use (D := 820) (U := 1720) ?u1 ?u2 ?u3 ?u4 (S_head ?kB ?kF ?kX ?kN ?kT ?kk ?kr ?ko ?ka ?kb ?kc ?_); (case u1 => exact rfl); (case u2 => exact rfl); (case u3 => exact Nat.le_of_ble_eq_true rfl); (case u4 => exact Nat.le_of_ble_eq_true rfl); (case kF => k_asm); (case kB => k_asm); (case kX => k_asm); (case kT => k_asm); (case kk => first | exact rfl | assumption); (case kN => exact news_one (by k_asm) (List.Mem.head _)); (case kr => exact news_tl (by k_asm)); (case ko => exact off_one (by k_all)); (case ka => omega); (case kb => omega); (case kc => omega)); intro zH u' H' ok' a' ta' b' tb' h' tk' hH' hHl' ha0 hb0 hb1 F' N' hzx')
  trivial
example : True := by
  k_with "call ref" => (k_here; (with_reducible show wpAny _ _ (call (Value.ref 356) _) _ _ _); k_dflt (refine' use (D := 860) (U := 1760) ?u1 ?u2 ?u3 ?u4 (S_pick ?kB ?kF ?kX ?kN ?kT ?kk ?kt ?kx ?v0 ?v1 ?v2 ?v3 ?ka ?kb ?kc ?_); (case u1 => exact rfl); (case u2 => exact rfl); (case u3 => exact Nat.le_of_ble_eq_true rfl); (case u4 => exact Nat.le_of_ble_eq_true rfl); (case kF => k_asm); (case kB => k_asm); (case kX => k_asm); (case kT => k_asm); (case kk => first | exact rfl | assumption); (case kN => exact news_drop2 (by k_asm)); (case kt => k_ne); (case kx => k_all); (case v0 => exact Nat.zero_lt_succ _); (case v1 => exact Nat.le_of_ble_eq_true rfl); (case v2 => exact rfl); (case v3 => exact rfl); (case ka => assumption); (case kb => assumption); (case kc => assumption)); intro w' tw' hw' hwl' a' ta' b' tb' h' tk' ha0 hb0 hb1 F' N'; (try simp only [strsOf] at hw'))
  trivial
example : True := by
  k_with "call ref" => (k_here; (with_reducible show wpAny _ _ (call (Value.ref 349) _) _ _ _); k_dflt (refine' use (D := 880) (U := 1780) ?u1 ?u2 ?u3 ?u4 (S_take ?kB ?kF ?kX ?kN ?kT ?kk ?kx ?ka ?kb ?kc ?kd ?ke ?_); (case u1 => exact rfl); (case u2 => exact rfl); (case u3 => exact Nat.le_of_ble_eq_true rfl); (case u4 => exact Nat.le_of_ble_eq_true rfl); (case kF => k_asm); (case kN => first | k_asm | exact news_swap (by k_asm)); (case kB => k_asm); (case kX => k_asm); (case kT => k_asm); (case kk => first | exact rfl | assumption); (case kx => k_all); (case ka => omega); (case kb => omega); (case kc => omega); (case kd => omega); (case ke => omega)); intro d' t' a' ta' b' tb' h' tk' hd0 hd1 ha0 hb0 hb1 F' N')
  trivial
example : True := by
  k_with "eval ListComp" => (k_here; (with_reducible rename HoldNow => hX'); refine held ?_)
  trivial
example : True := by
  k_with "CompSrc" => (refine held ?_)
  trivial
set_option maxRecDepth 100000 in
set_option maxHeartbeats 1000000 in
theorem T0 : PySem.Challenge.rw_xm0639_01.Holds := Mine.hd.it.2 (by
  delta Mine.hd.it
  refine at_it ?_
  k_go0
  all_goals (try k_fold)
  try ((with_reducible rename Ground _ _ _ _ _ _ _ _ => hZ); clear hZ)
  try ((with_reducible rename Dflts _ _ _ => hZ); clear hZ)
  try ((with_reducible rename TopE _ _ _ _ => hZ); clear hZ)
  try ((with_reducible rename TopW _ _ _ => hZ); clear hZ)
  try ((with_reducible rename Tables _ _ _ _ => hZ); clear hZ)
  try ((with_reducible rename LooseAre _ _ _ => hZ); clear hZ)
  try ((with_reducible rename ReadsAllW _ _ _ _ _ _ => hZ); clear hZ)
  try ((with_reducible rename ReadsAll _ _ _ _ => hZ); clear hZ)
  try ((with_reducible rename Well _ _ _ _ => hZ); clear hZ)
  try ((with_reducible rename Reads _ _ _ _ => hZ); clear hZ)
  try ((with_reducible rename TabsAt _ _ => hZ); clear hZ)
  try ((with_reducible rename CellsAre _ _ _ => hZ); clear hZ)
  try ((with_reducible rename Heap.CodeRec _ _ _ => hZ); clear hZ)
  try ((with_reducible rename Flt.MathXP _ _ _ => hZ); clear hZ)
  have hX : HoldNow := trivial
  k_steps
  refine held' ?_
  k_dflt (refine' comp_pairs_no ?cF rfl ?c1 rfl ?c2 rfl rfl ?c3 ?_)
  case cF => k_asm
  case c1 => decide
  case c2 => decide
  case c3 => decide
  k_steps
  k_dflt (refine' ⟨_, _, _, _, rfl, rfl, ?aF, ?aN, List.Mem.head _, fun s₂ hs₂ => ⟨fun i v hv => ?aI, fun D h tk F9 N9 o9 => ?aZ⟩⟩)
  case aF => k_asm
  case aN => k_asm
  case aI =>
    obtain ⟨g, rfl⟩ := hs₂
    have hv' := Array.mem_of_getElem? hv
    simp only [List.mem_toArray, List.mem_cons, List.not_mem_nil, or_false] at hv'
    clear hv
    rcases hv' with rfl | rfl | rfl | rfl | rfl | rfl | rfl
    all_goals (
      refine ⟨_, _, _, _, _, rfl, (by repeat (first | exact List.Mem.head _ | apply List.Mem.tail)), rfl, rfl, ?_⟩
      intro I oI C oC D m₂ h tk E' hC h1 h2 F1 N1 _ _
      k_dflt exact use rfl rfl (Nat.le_of_ble_eq_true rfl) (Nat.le_of_ble_eq_true rfl) (T_pref (by k_asm) F1 (by k_asm) N1 (by k_asm) rfl (by first | exact ref_l1 _ | exact ref_l2 _ | exact ref_l3 _ | exact ref_l4 _ | exact ref_l5 _ | exact ref_l6 | exact ref_l7) hC h1 h2))
  case aZ =>
    obtain ⟨g, rfl⟩ := hs₂
    replace N9 := news_app (a := [_]) (news_one N9 (List.Mem.head _)) (news_tl (news_tl (news_tl (news_tl (news_tl (news_tl (news_tl (news_tl (news_tl (news_tl (news_tl (N9))))))))))))
    simp only [List.cons_append, List.nil_append] at N9
    clear o9
    k_steps
    refine held' ?_
    k_dflt (refine' comp_one_no ?dF rfl ?d1 rfl ?d2 rfl ?_)
    case dF => k_asm
    case d1 => decide
    case d2 => decide
    k_steps
    k_dflt (refine' ⟨_, _, _, _, rfl, rfl, ?aF, ?aN, List.Mem.head _, fun s₂ hs₂ => ⟨fun i v hv => ?aI, fun D2 h tk F8 N8 o8 => ?aZ⟩⟩)
    case aF => k_asm
    case aN => k_asm
    case aI =>
      obtain ⟨g, rfl⟩ := hs₂
      have hv' := Array.mem_of_getElem? hv
      simp only [List.mem_toArray, List.mem_cons, List.not_mem_nil, or_false] at hv'
      clear hv
      rcases hv' with rfl | rfl | rfl | rfl
      all_goals (
        intro I oI C oC D m₂ h tk E' hC h1 F1 N1 _ _
        k_dflt exact use rfl rfl (Nat.le_of_ble_eq_true rfl) (Nat.le_of_ble_eq_true rfl) (T_bare (by k_asm) F1 (by k_asm) N1 (by k_asm) rfl (by k_asm) (by k_asm) (by decide) (by first | exact bare_lit1 | exact bare_lit2 | exact bare_lit3 | exact bare_lit4) hC h1))
    case aZ =>
      obtain ⟨g, rfl⟩ := hs₂
      replace N8 := news_app (a := [_]) (news_one N8 (List.Mem.head _)) (news_tl (news_tl (news_tl (news_tl N8))))
      simp only [List.cons_append, List.nil_append] at N8
      clear o8

      k_steps
      refine held' ?_
      k_dflt (refine' LCg.ListComp_U (F₀ := ?eF) rfl ?e1 rfl ?e2 rfl ?_)
      case eF => k_asm
      case e1 => decide
      case e2 => decide
      (with_reducible rename News _ _ _ _ => NX)
      (try simp only [List.cons_append, List.nil_append] at NX)
      k_steps
      refine held' ?_
      (rename IsRange _ _ _ _ _ _ _ _ => rgX)
      k_dflt (refine' LCg.CompSrc.range rfl ?bF ?bN rgX (small_one ?b1 ?b2 ?b3 ?b4) (rangeSize_nat _ _) ?b5 (fun g => T_body (n' := 0) (n0 := 0) rfl rfl ?x1 ?x2 ?xB ?xX ?xT rfl ?xS ?xP ?y1 ?y2 ?y3 ?y4 rfl rfl ?v0 ?v1 ?v2 ?ya ?yb ?yc ?xF))
      case bF => k_asm
      case bN => k_asm
      case b1 => omega
      case b2 => omega
      case b3 => omega
      case b4 => omega
      case b5 => (simp only [sizeLine_eq]; omega)
      case x1 => exact Nat.le_of_ble_eq_true rfl
      case x2 => exact Nat.le_of_ble_eq_true rfl
      case xB => k_asm
      case xX => k_asm
      case xT => k_asm
      case xS => assumption
      case xP => assumption
      case y1 => k_ne
      case y2 => k_ne
      case y3 => k_ne
      case y4 => k_ne
      case v0 => exact Nat.zero_lt_succ _
      case v1 => exact Nat.le_of_ble_eq_true rfl
      case v2 => exact rfl
      case ya => omega
      case yb => omega
      case yc => omega
      case xF =>
        intro ys a9 ta9 b9 tb9 hlen hys D3 h tk F7 N7 o7
        k_steps
        k_dflt (refine' s_joinAll ?jN hys ?jl ?jm ?_)
        case jN => k_asm
        case jl => omega
        case jm => exact fun w hw => len_of_all (k := 40) rfl hw
        intro ws tj kj hwl9 hw9
        have LF := law_facts (by assumption) (by assumption) hw9 hwl9 (by assumption)
        k_steps
        refine held' ?_
        k_dflt (refine' use (D := 640) (U := 1500) ?u1 ?u2 ?u3 ?u4 (S_right ?kB ?kF ?kX ?kN ?kT ?kk ?kx ?kt ?kc LF.hO LF.hH LF.hD LF.p1 LF.p2 LF.q1 LF.q2 LF.q3 LF.q4 LF.ob ?_))
        case u1 => exact rfl
        case u2 => exact rfl
        case u3 => exact Nat.le_of_ble_eq_true rfl
        case u4 => exact Nat.le_of_ble_eq_true rfl
        case kB => k_asm
        case kF => k_asm
        case kX => k_asm
        case kT => k_asm
        case kx => k_asm
        case kt => k_asm
        case kN => exact news_one (by k_asm) (by repeat (first | exact List.Mem.head _ | apply List.Mem.tail))
        case kk => exact rfl
        case kc => exact codeHd
        intro gh ps h9 tk9 T9 F9 N9 B9
        k_dflt have F0 := fr_back T9 F9
        k_steps)



end Mine
set_option maxRecDepth 100000 in
theorem PySem.Challenge.cw_xm0639_01_holds : PySem.Challenge.rw_xm0639_01.Holds :=
  Mine.T0

