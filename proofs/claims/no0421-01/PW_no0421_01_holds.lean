import PyProof.Rows.All
import Wide.All
import OpenK.AllK
import Wide.FinOn
import KE.KTryMore
import KE.KFromBytes
import Lean
import PySem.Challenge.RW_no0421_01
/- The law of raftkeep's codecs. How the proof goes:
a logic of clean stacks (codeG, wpG) beside the library's wpAny, for bytearrays that grow; a mini language (M) with weakest preconditions over plain data (wpE .. wpSs, wpCall);
soundness: where a def's body is a translation of a body of M, what wpCall says of it the machine does (sound, law_entry); the bodies are translated by a checked function and held against the written heap by looks (Stat);
the contracts of the defs and of the law itself over wpCall (plain_law), with no program in sight; the call from outside (walk_of), the library's head (hd).
The theorems hd.tw.. only hold names: the head then lays no quick copies of the written heap, which would pass the lid of the compiled file. Short names of lemmas: the lid of the text. -/
section
set_option maxRecDepth 100000
section
set_option Elab.async false
set_option linter.all false
set_option genSizeOf false
set_option genCtorIdx false
set_option bootstrap.genMatcherCode false
set_option genInjectivity false
set_option backward.match.sparseCases false
open Nat renaming le_trans→aA,lt_of_lt_of_le→aJ,lt_of_le_of_lt→aS,add_le_add_left→aT,le_add_right→aU,mul_le_mul_right→bA,le_refl→bD,le_of_lt_succ→bE,le_of_ble_eq_true→bG,not_lt→bK,le_of_not_lt→bU,succ_le_succ→bX,le_of_lt→b6,ne_of_lt→cJ,le_of_eq→cP,zero_le→cV,add_right_comm→cZ,add_assoc→c4,lt_trans→dD,add_sub_cancel_left→dO,ble_eq_true_of_le→dX,add_le_add_right→d9,le_succ→eJ,le_add_left→eK,mul_comm→eX,add_comm→eY,zero_add→fL,succ_pos→fM,lt_irrefl→fQ,mod_lt→fX,add_le_add→fY,sub_self→gK,mul_le_mul_left→gU,add_lt_add_left→gV,mod_eq_of_lt→hK,div_div_eq_div_mul→iR,eq_of_beq_eq_true→i0,le_succ_of_le→i6,div_lt_of_lt_mul→jN,succ_mul→jW,lt_succ_self→jX,min_eq_left→kK,le_antisymm→kM,one_pos→lD,ne_of_gt→lU,and_two_pow_sub_one_eq_mod→nC,pow_le_pow_right→nM,two_pow_add_eq_or_of_lt→o5,add_sub_cancel→pI
open PySem renaming wpAny_bind→aC,wpAny_pure→aI,wpAny_mono→bQ,builtinLookup_eq_fast→b7,wpAny_of_eq→dA,wpAny_specialOf→dF,typeLookup_type→dG,wpAny_newObj_type→eF,wpAny_standAt→fP,wpAny_isNot_plain→gI,wpAny_field→gJ,wpAny_holding→gN,wpAny_is_plain→jH,wpAny_rule→kP,wpAny_load→kQ,isSubtype_type→lP,wpAny_isInstance→mR,sizeLine_eq→nJ,bm_if_false→nL
open List renaming append_assoc→aE,length_append→aF,length_map→aK,getElem?_eq_some_iff→aX,mem_of_getElem?→a7,mem_append_right→a8,append_nil→bF,map_append→bI,mem_singleton→bJ,mem_cons→bN,getElem?_append_left→bT,lookup_cons→cA,all_eq_true→cF,getElem?_append_right→cG,length_cons→cK,getElem?_eq_getElem→c5,mem_map→dE,prefix_rfl→dM,mem_append_left→dQ,mem_append→dS,zip_cons_cons→d7,prefix_append→d8,length_range→eH,suffix_rfl→fI,map_map→fN,nodup_cons→gH,getElem?_map→gL,filterMap_cons→gW,flatten_nil→hU,map_nil→iS,size_toArray→i7,getD_eq_getElem?_getD→jO,length_pos_iff→kC,map_cons→kI,getElem_range→lA,flatten_cons→lV,set_append_right→mJ,cons_prefix_cons→mK,length_take→nG,eq_nil_of_length_eq_zero→nN,take_left'→oN
open Int renaming natCast_nonneg→aV,ofNat_lt→bH,ofNat_le→cC,le_trans→cW,toNat_natCast→dJ,le_of_lt→eZ,not_lt→gP,min_eq_left→oO,not_le→pK,lt_of_le_of_lt→pL,fdiv_eq_ediv_of_nonneg→pM
open Array renaming getElem?_toList→dB,getElem?_eq_some_iff→fZ,getElem?_eq_getElem→gG,length_toList→gY,toList_append→oQ
open PySem.W renaming typeIs_bytes→eG
open PySem.Sem renaming wp_mono→fC
open Bool renaming and_eq_true_iff→fD,or_eq_true_iff→gX,and_eq_true→hV,false_ne_true→pO
open Option renaming map_eq_some_iff→fK,isSome_iff_exists→kH
open PySem.Obj renaming isFreed_of_fields→f0
open LawfulBEq renaming eq_of_beq→gZ
open PySem.Around renaming under_of_weight→iU,under_plainId→nP
open PyProof.Rows renaming slot_tuple_getitem→kS
open UInt8 renaming lt_iff_toNat_lt→mI
open PySem.W.FB renaming slot_bytes_getitem→mL
section
namespace Internal
theorem hide {P:Prop} (h:∀G:Prop,(P→G)→G):P:=h P id
open PySem PySem.W PySem.Calls PyProof.Rows
open Sem (wp)
noncomputable def decOk:Code→Bool
 | .builtin id _=>!(Builtin.Bytes.decodersThatHold.contains id) && !(guardIds.contains id)
 | _=>true
noncomputable def Clean (Γ:Ctx):Prop:=decOk Γ.code=true∧∀x∈Γ.below,decOk x.1=true
noncomputable def wpG {α:Type} (M:Model) (A:Around) (t:Sem α) (Q:α→Shared→Prop) (E:Value→Shared→Prop) (s:Shared):Prop:=
 ∀Γ p,Γ.In A→Clean Γ→wp M Γ t (fun a _ s'=>Q a s') (fun e _ s'=>E e s') p s
noncomputable def codeG (M:Model) (A:Around) (c:Code) (R:Result→Shared→Prop) (s:Shared):Prop:=
 ∀Γ p,Γ.code=c→Γ.Below A→(∀x∈Γ.below,decOk x.1=true)→wpCode M Γ R p s
section
variable {α β:Type} {M:Model} {A:Around} {E:Value→Shared→Prop} {s:Shared}
theorem bV {t:Sem α} {Q:α→Shared→Prop} (h:wpAny M A t Q E s):wpG M A t Q E s:=fun Γ p hΓ _=>h Γ p hΓ
theorem codeG_of {c:Code} {R:Result→Shared→Prop} (h:codeAny M A c R s):codeG M A c R s:=fun Γ p hc hΓ _=>h Γ p hc hΓ
theorem aY {a:α} {Q:α→Shared→Prop} (h:Q a s):wpG M A (pure a) Q E s:=fun _ _ _ _=>h
theorem aO {t:Sem α} {Q Q':α→Shared→Prop} {E':Value→Shared→Prop} (h:wpG M A t Q E s) (hQ:∀a s,Q a s→Q' a s) (hE:∀e s,E e s→E' e s):wpG M A t Q' E' s:=
 fun Γ p hΓ hC=>fC M Γ t (fun a _ s=>hQ a s) (fun e _ s=>hE e s) p s (h Γ p hΓ hC)
theorem aM {m:Sem α} {f:α→Sem β} {Q:β→Shared→Prop} (h:wpG M A m (fun a s'=>wpG M A (f a) Q E s') E s):wpG M A (m >>=f) Q E s:=fun Γ p hΓ hC=>by
 rw [Sem.wp_bind']
 exact fC M Γ m (fun a p' s' h'=>h' Γ p' hΓ hC) (fun _ _ _ h'=>h') p s (h Γ p hΓ hC)
theorem dC {m:Sem α} {f:α→Sem β} {Q:β→Shared→Prop} (h:wpAny M A m (fun a s'=>wpG M A (f a) Q E s') E s):wpG M A (m >>=f) Q E s:=aM (bV h)
theorem wpG_map {m:Sem α} {f:α→β} {Q:β→Shared→Prop} (h:wpG M A m (fun a s'=>Q (f a) s') E s):wpG M A (f <$> m) Q E s:=fun Γ p hΓ hC=>by rw [Sem.wp_map];exact h Γ p hΓ hC
theorem iC {m:Sem α} {k:Value→Sem Unit} {Q:α→Shared→Prop} (h:wpG M A m Q (fun e s'=>wpG M A (k e) (fun _ s''=>E e s'') E s') s):wpG M A (m.onRaise k) Q E s:=fun Γ p hΓ hC=>by
 rw [Sem.wp_onRaise]
 exact fC M Γ m (fun _ _ _ h'=>h') (fun e p' s' h'=>h' Γ p' hΓ hC) p s (h Γ p hΓ hC)
theorem wpG_attempt {m:Sem α} {Q:Except Value α→Shared→Prop} (h:wpG M A m (fun a=>Q (.ok a)) (fun e=>Q (.error e)) s):wpG M A m.attempt Q E s:=fun Γ p hΓ hC=>by rw [Sem.wp_attempt];exact h Γ p hΓ hC
theorem wpG_tryCatch {m:Sem α} {k:Value→Sem α} {Q:α→Shared→Prop} (h:wpG M A m Q (fun e s'=>wpG M A (k e) Q E s') s):wpG M A (tryCatch m k) Q E s:=fun Γ p hΓ hC=>by
 rw [Sem.wp_tryCatch']
 exact fC M Γ m (fun _ _ _ h'=>h') (fun e p' s' h'=>h' Γ p' hΓ hC) p s (h Γ p hΓ hC)
theorem bL {vs:List Value} {m:Sem α} {Q:α→Shared→Prop} (h:wpG M A m Q E s):wpG M A (holding vs m) Q E s:=fun Γ p hΓ hC=>by rw [Sem.wp_holding];exact h Γ p hΓ hC
theorem wpG_operating {vs:List Value} {m:Sem Value} {Q:Value→Shared→Prop} (h:wpG M A m Q E s):wpG M A (operate vs m) Q E s:=fun Γ p hΓ hC=>by rw [Sem.wp_operate];exact h Γ p hΓ hC
theorem wpG_keep {vs:List Value} {m:Sem α} {Q:α→Shared→Prop} (h:wpG M A m Q E s):wpG M A (m.keep vs) Q E s:=fun Γ p hΓ hC=>by rw [Sem.wp_keep];exact h Γ p hΓ hC
theorem wpG_ite {c:Prop} [Decidable c] {a b:Sem α} {Q:α→Shared→Prop} (h:if c then wpG M A a Q E s else wpG M A b Q E s):wpG M A (if c then a else b) Q E s:=by split <;> simp_all
theorem bM {pos:Pos} {f:Unit→Sem β} {Q:β→Shared→Prop} (h:wpG M A (f ()) Q E s):wpG M A (standAt pos >>=f) Q E s:=dC (fP h)
theorem wpG_point {f:Unit→Sem β} {Q:β→Shared→Prop} (h:wpG M A (f ()) Q E s):wpG M A (point >>=f) Q E s:=dC (wpAny_point h)
theorem iW {t:Sem α} {a:α} {Q:α→Shared→Prop} (e:t=pure a) (h:Q a s):wpG M A t Q E s:=by rw [e];exact aY h
theorem kY {c:Code} {R R':Result→Shared→Prop} (h:codeG M A c R s) (hR:∀r s,R r s→R' r s):codeG M A c R' s:=fun Γ p hc hΓ hB=>wpCode_mono hR (h Γ p hc hΓ hB)
theorem wpG_run {c:Code} {h:Option Value} {Q:Flow→Shared→Prop} (hc:codeG M (A.mark h) c (fun r s'=>match r with | .ok f=>Q f s' | .error e=>E e s') s) (hnb:h≠some byPass:=by intro x;cases x):wpG M A (run c h) Q E s:=
 fun Γ p hΓ hC=>by rw [Sem.wp_run];exact hc _ p rfl (hΓ.enter c h p hnb) fun x hx=>(bN.mp hx).elim (fun q=>q▸hC.1) (hC.2 x)
set_option backward.match.sparseCases true in
theorem wpG_runValue {c:Code} {Q:Value→Shared→Prop} (hc:codeG M A c (fun r s'=>match r with | .ok (.ret v)=>Q v s' | .ok _=>False | .error e=>E e s') s):wpG M A (runValue c) Q E s:=
 fun Γ p hΓ hC=>by rw [Sem.wp_runValue];exact hc _ p rfl (hΓ.enter c none p (by intro x;cases x)) fun x hx=>(bN.mp hx).elim (fun q=>q▸hC.1) (hC.2 x)
set_option backward.match.sparseCases true in
theorem oR {f:Value} {pos:List Value} {kw:List (Str×Value)} {Q:Value→Shared→Prop} (hc:codeG M A (.call f ⟨pos,kw⟩) (fun r s'=>match r with | .ok (.ret v)=>Q v s' | .ok _=>False | .error e=>E e s') s):wpG M A (call f pos kw) Q E s:=wpG_runValue hc
theorem dZ {c:Code} {R:Result→Shared→Prop} (hd:decOk c=true)
  (h:wpG M (A.under c) (M.den c) (fun fin s'=>match fin with | .done f=>R (.ok f) s' | .again c'=>c'.quiet=true∧codeG M A c' R s') (fun e s'=>R (.error e) s') s):codeG M A c R s:=fun Γ p hc hΓ hB=>by
 rw [wpCode_iff_wp,hc]
 refine fC M Γ _ (fun fin p' s' h'=>?_) (fun _ _ _ h'=>h') p s (h Γ p (hc▸hΓ.in) ⟨hc▸hd,hB⟩)
 induction fin with
 | done f=>exact h'
 | again c'=>exact ⟨h'.1,h'.2 (Γ.goto c') p' rfl (hΓ.goto c') hB⟩
inductive LoopQ (M:Model) (A:Around) (c:Code) (R:Result→Shared→Prop) (I:Nat→Shared→Prop) (n:Nat):Fin→Shared→Prop
 | done {f:Flow} {s:Shared} (h:R (.ok f) s):LoopQ M A c R I n (.done f) s
 | turn {m:Nat} {s:Shared} (l:m < n) (h:I m s):LoopQ M A c R I n (.again c) s
 | on {c':Code} {s:Shared} (q:c'.quiet=true) (h:codeG M A c' R s):LoopQ M A c R I n (.again c') s
theorem codeG_loop' {c:Code} {R:Result→Shared→Prop} (hd:decOk c=true) (hq:c.quiet=true) (I:Nat→Shared→Prop)
  (turn:∀n s,I n s→wpG M (A.under c) (M.den c) (LoopQ M A c R I n) (fun e s'=>R (.error e) s') s)
  (n:Nat) (h:I n s):codeG M A c R s:=by
 induction n using Nat.strongRecOn generalizing s with
 | ind n ih=>
  refine dZ hd (aO (turn n s h) (fun fin s' hf=>?_) fun _ _ h'=>h')
  induction hf with
  | done h=>exact h
  | turn l h=>exact ⟨hq,ih _ l h⟩
  | on q h=>exact ⟨q,h⟩
theorem wpG_runOwn {c:Code} {env:Env} {h:Option Value} {Q:Flow→Shared→Prop}
  (hc:codeG M (A.mark h) c (fun r s'=>match r with | .ok f=>Q f s' | .error e=>cameBackBy M A env E e s') s) (hnb:autoParam (h≠some byPass) wpG_run._auto_1):wpG M A (runOwn c env h) Q E s:=by
 unfold runOwn
 exact iC (wpG_run (kY hc fun r s' q=>by
  induction r with
  | ok f=>exact q
  | error e=>exact bV q) hnb)
variable {env:Env}
theorem lF {x pos} {Q:Value→Shared→Prop} (h:wpAny M A (loadName env x) Q E s) (hd:(x==("__debug__" :Str))=false:=by decide):wpG M A (eval (.Name x pos) env) Q E s:=bV (wpAny_Name h hd)
theorem wpG_UnaryOp {op:UnaryOp} {x:Expr} {pos:Pos} {Q:Value→Shared→Prop} (h:wpG M A (eval x env) (fun v s₁=>wpAny M A (unaryOp op v) Q E s₁) E s):wpG M A (eval (.UnaryOp op x pos) env) Q E s:=by
 rw [arm_eval_UnaryOp]
 exact aM (aO h (fun v s₁ h₁=>bM (bL (bV h₁))) fun _ _ x=>x)
theorem wpG_BinOp {l op r pos} {Q:Value→Shared→Prop} (h:wpG M A (eval l env) (fun a s₁=>wpG M A (eval r env) (fun b s₂=>wpAny M A (binaryOp op a b) Q E s₂) E s₁) E s):wpG M A (eval (.BinOp l op r pos) env) Q E s:=fun Γ p hΓ hC=>by
 simp only [eval_BinOp,Sem.wp_bind',Sem.wp_holding,Sem.wp_cmd_standAt,Sem.wp_operate]
 exact fC M Γ _ (fun a p₁ s₁ h₁=>fC M Γ _ (fun b _ s₂ h₂=>h₂ Γ _ hΓ) (fun _ _ _ h'=>h') _ _ (h₁ Γ p₁ hΓ hC)) (fun _ _ _ h'=>h') _ _ (h Γ p hΓ hC)
theorem wpG_Compare1 {l op r pos} {Q:Value→Shared→Prop} (h:wpG M A (eval l env) (fun a s₁=>wpG M A (eval r env) (fun b s₂=>wpAny M A (compareOp op a b) Q E s₂) E s₁) E s)
  (hm:behindInMarks op r=false):wpG M A (eval (.Compare l [op] [r] pos) env) Q E s:=fun Γ p hΓ hC=>by
 simp only [eval_Compare1,markedBehindIn_of_false hm,Sem.wp_bind',Sem.wp_holding,Sem.wp_cmd_standAt,Sem.wp_operate]
 exact fC M Γ _ (fun a p₁ s₁ h₁=>fC M Γ _ (fun b _ s₂ h₂=>h₂ Γ _ hΓ) (fun _ _ _ h'=>h') _ _ (h₁ Γ p₁ hΓ hC)) (fun _ _ _ h'=>h') _ _ (h Γ p hΓ hC)
theorem wpG_isTrue_Compare1 {l op r pos whole} {Q:Bool→Shared→Prop} (h:wpG M A (eval l env) (fun a s₁=>wpG M A (eval r env) (fun b s₂=>wpAny M A (compareOp op a b) (fun c s₃=>wpAny M A (truthy c) Q E s₃) E s₂) E s₁) E s)
  (hm:behindInMarks op r=false):wpG M A (isTrue (.Compare l [op] [r] pos) env whole) Q E s:=fun Γ p hΓ hC=>by
 simp only [isTrue_Compare1,markedBehindIn_of_false hm,Sem.wp_bind',Sem.wp_holding,Sem.wp_cmd_standAt,Sem.wp_operate]
 exact fC M Γ _ (fun a p₁ s₁ h₁=>fC M Γ _ (fun b _ s₂ h₂=>fC M Γ _ (fun c p₃ s₃ h₃=>h₃ Γ p₃ hΓ)
  (fun _ _ _ h'=>h') _ _ (h₂ Γ _ hΓ)) (fun _ _ _ h'=>h') _ _ (h₁ Γ p₁ hΓ hC)) (fun _ _ _ h'=>h') _ _ (h Γ p hΓ hC)
theorem wpG_IfExp {test body orelse:Expr} {pos:Pos} {Q:Value→Shared→Prop} (h:wpG M A (isTrue test env (eval test env)) (fun b s₁=>if b then wpG M A (eval body env) Q E s₁ else wpG M A (eval orelse env) Q E s₁) E s):wpG M A (eval (.IfExp test body orelse pos) env) Q E s:=by
 rw [arm_eval_IfExp]
 refine aM (aO h (fun b s₁ h₁=>?_) fun _ _ x=>x)
 cases b <;> exact h₁
theorem wpG_isTrue_value {e:Expr} {whole:Sem Value} {Q:Bool→Shared→Prop} (h:wpG M A whole (fun v s₁=>wpAny M A (truthy v) Q E s₁) E s) (he:isTrue e env whole=(do let v←whole;standAt e.pos;holding [v] (truthy v))):wpG M A (isTrue e env whole) Q E s:=by
 rw [he]
 exact aM (aO h (fun v s₁ h₁=>bM (bL (bV h₁))) fun _ _ x=>x)
theorem wpG_isTrue_Not {x:Expr} {pos:Pos} {whole:Sem Value} {Q:Bool→Shared→Prop} (h:wpG M A (isTrue x env (eval x env)) (fun b s₁=>Q (!b) s₁) E s):wpG M A (isTrue (.UnaryOp .Not x pos) env whole) Q E s:=by
 rw [arm_isTrue_UnaryOp]
 exact aM (aO h (fun b s₁ h₁=>aY h₁) fun _ _ x=>x)
theorem wpG_isTrue_BoolOp {op:BoolOp} {values:List Expr} {pos:Pos} {whole:Sem Value} {Q:Bool→Shared→Prop} (h:wpG M A (allTrue op values env) Q E s):wpG M A (isTrue (.BoolOp op values pos) env whole) Q E s:=by rw [arm_isTrue_BoolOp];exact h
theorem wpG_allTrue_And_nil {Q:Bool→Shared→Prop} (h:Q true s):wpG M A (allTrue .And [] env) Q E s:=aY h
theorem wpG_allTrue_Or_nil {Q:Bool→Shared→Prop} (h:Q false s):wpG M A (allTrue .Or [] env) Q E s:=aY h
theorem lE {x:Expr} {rest:List Expr} {Q:Bool→Shared→Prop} (h:wpG M A (isTrue x env (eval x env)) (fun b s₁=>if b then wpG M A (allTrue .And rest env) Q E s₁ else Q false s₁) E s):wpG M A (allTrue .And (x::rest) env) Q E s:=by
 rw [arm_allTrue_cons]
 refine aM (aO h (fun b s₁ h₁=>?_) fun _ _ x=>x)
 cases b
 ·exact aY h₁
 ·exact h₁
theorem lW {x:Expr} {rest:List Expr} {Q:Bool→Shared→Prop} (h:wpG M A (isTrue x env (eval x env)) (fun b s₁=>if b then Q true s₁ else wpG M A (allTrue .Or rest env) Q E s₁) E s):wpG M A (allTrue .Or (x::rest) env) Q E s:=by
 rw [arm_allTrue_cons]
 refine aM (aO h (fun b s₁ h₁=>?_) fun _ _ x=>x)
 cases b
 ·exact h₁
 ·exact aY h₁
theorem oD {value slice pos} {Q:Value→Shared→Prop} (h:wpG M A (eval value env) (fun o s₁=>wpG M A (eval slice env) (fun i s₂=>wpAny M A (subscriptTail value slice o i) Q E s₂) E s₁) E s):wpG M A (eval (.Subscript value slice pos) env) Q E s:=by
 rw [eval_Subscript]
 exact aM (aO h (fun o s₁ h₁=>aM (bL (aO h₁ (fun i s₂ h₂=>bM (bV h₂)) fun _ _ x=>x))) fun _ _ x=>x)
theorem wpG_Slice {lower upper step:Option Expr} {p:Pos} {Q:Value→Shared→Prop}
  (h:wpG M A (evalPart lower env) (fun l s₁=>wpG M A (evalPart upper env) (fun u s₂=>wpG M A (evalPart step env) (fun st s₃=>
   Q (.ref s₃.heap.objs.size) {s₃ with heap:=s₃.heap.push {cls:=.type "slice",data:=.fields #[l,u,st]}}) E s₂) E s₁) E s):wpG M A (eval (.Slice lower upper step p) env) Q E s:=by
 rw [arm_eval_Slice]
 refine aM (aO h (fun l s₁ h₁=>aM (bL (aO h₁ (fun u s₂ h₂=>aM (bL (aO h₂ (fun st s₃ h₃=>?_) fun _ _ x=>x))) fun _ _ x=>x))) fun _ _ x=>x)
 exact bV (eF h₃)
theorem wpG_spliced_cons {x:Sem Value} {rest:List (Bool×Sem Value)} {Q:List Value→Shared→Prop} (h:wpG M A x (fun v s₁=>wpG M A (spliced rest) (fun vs s₂=>Q (v::vs) s₂) E s₁) E s):wpG M A (spliced ((false,x)::rest)) Q E s:=by
 rw [spliced]
 refine aM (aO h (fun v s₁ h₁=>?_) fun _ _ x=>x)
 dsimp only [Bool.false_eq_true,if_false]
 exact aM (aY (aM (bL (aO h₁ (fun vs s₂ h₂=>aY h₂) fun _ _ x=>x))))
theorem wpG_items_nil {pos:Pos} {Q:List Value→Shared→Prop} (h:Q [] s):wpG M A (spliced (backTo pos (starEach [] env))) Q E s:=aY h
theorem wpG_items_cons {pos:Pos} {e:Expr} {rest:List Expr} {Q:List Value→Shared→Prop} (h:wpG M A (eval e env) (fun v s₁=>wpG M A (spliced (backTo pos (starEach rest env))) (fun vs s₂=>Q (v::vs) s₂) E s₁) E s)
  (he:starEach (e::rest) env=(false,eval e env)::starEach rest env):wpG M A (spliced (backTo pos (starEach (e::rest) env))) Q E s:=by
 rw [he]
 exact wpG_spliced_cons h
theorem wpG_Tuple {elts:List Expr} {k:Nat} {pos:Pos} {Q:Value→Shared→Prop}
  (h:wpG M A (spliced (backTo pos (starEach elts env))) (fun vs s₁=>vs.length≤sizeLine∧Q (.ref s₁.heap.objs.size) {s₁ with heap:=s₁.heap.push {cls:=.type "tuple",data:=.seq vs.toArray}}) E s):wpG M A (eval (.Tuple elts k pos) env) Q E s:=by
 rw [arm_eval_Tuple]
 exact bM (aM (aO h (fun vs s₁ h₁=>bV (eF h₁.2 (by show vs.toArray.size≤sizeLine;rw [i7];exact h₁.1))) fun _ _ x=>x))
theorem wpG_List {elts:List Expr} {pos:Pos} {Q:Value→Shared→Prop}
  (h:wpG M A (spliced (backTo pos (starEach elts env))) (fun vs s₁=>vs.length≤sizeLine∧Q (.ref s₁.heap.objs.size) {s₁ with heap:=s₁.heap.push {cls:=.type "list",data:=.seq vs.toArray}}) E s):wpG M A (eval (.List elts pos) env) Q E s:=by
 rw [arm_eval_List]
 exact bM (aM (aO h (fun vs s₁ h₁=>bV (eF h₁.2 (by show vs.toArray.size≤sizeLine;rw [i7];exact h₁.1))) fun _ _ x=>x))
end
end Internal
end
section
namespace Internal
open PySem PySem.W PySem.Calls PyProof.Rows
open Sem (wp)
theorem decOk_of {id:String} {args:Args} (h:(!(Builtin.Bytes.decodersThatHold.contains id) && !(guardIds.contains id))=true):decOk (.builtin id args)=true:=h
section
variable {prog:Program} {w:World} {A:Around} {E:Value→Shared→Prop} {s:Shared} {R:Result→Shared→Prop}
noncomputable def retV:Flow→Value
 | .ret v=>v
 | _=>.none
set_option backward.match.sparseCases true in
theorem codeG_func {body env}
  (h:wpG (model prog w) (A.deeper env) (execs body env) (fun f s'=>R (.ok (.ret (retV f))) s')
   (fun e s'=>wpAny (model prog w) (A.deeper env) (leaving env e) (fun _ s''=>R (.error e) s'') (fun e' s''=>R (.error e') s'') s') s):
  codeG (model prog w) A (.func body env) R s:=by
 refine dZ rfl ?_
 refine wpG_point (aM (iC (aO h (fun f s' h'=>?_) fun _ _ h'=>bV h')))
 cases f <;> exact aY h'
noncomputable def cfK (a c:Addr) (args:Args) (fd:FuncData) (body:List Stmt) (q:Str):Sem Fin:=
 bindArgs fd args >>=fun b=>newFunctionEnv fd.scope fd.globals fd.closure b (q++ ".<locals>.") (some a) (.ref c) none fd.builtins >>=fun env=>enterFrame >>=fun _=>again (.func body env)
set_option backward.match.sparseCases true in
theorem cf_eq {a c:Addr} {args:Args} {fd:FuncData} {body:List Stmt} (hco:fd.scope.isCoroutine=false) (hgen:fd.scope.isGenerator=false) (hbody:fd.body=.stmts body) (hc:fd.code=.ref c):
  callFunction a fd args=(field (.ref c) 1 >>=fun r=>match r with
   | .str q _=>pure q >>=cfK a c args fd body
   | _=>pure fd.qualname >>=cfK a c args fd body):=by
 delta callFunction
 rw [hc,hbody,hgen,hco]
 rfl
theorem lY {a:Addr} {args:Args} {o:Obj} {fd:FuncData} {body:List Stmt} (hroom:A.depth < recursionLimit)
  (ho:s.heap.get? a=some o)
  (hd':o.data=.func fd) (hco:fd.scope.isCoroutine=false) (hgen:fd.scope.isGenerator=false) (hbody:fd.body=.stmts body) (hcd:s.heap.CodeRec fd.code fd.qualname)
  (h:wpAny (model prog w) A.in1 (bindArgs fd args) (fun binds s₁=>
   wpAny (model prog w) A.in1 (newFunctionEnv fd.scope fd.globals fd.closure binds (fd.qualname++ ".<locals>.") (some a) fd.code none fd.builtins)
    (fun env s₂=>s₂.heap.NoLimit∧codeG (model prog w) A (.func body env) R s₂) (fun e s'=>R (.error e) s') s₁) (fun e s'=>R (.error e) s') s):
  codeG (model prog w) A (.call (.ref a) args) R s:=by
 refine dZ rfl (bV ?_)
 refine aC (kQ ho ?_)
 rw [hd']
 show wpAny _ A.in1 (callFunction a fd args) _ _ s
 obtain ⟨c,oc,vs,tq,hc,hoc,hdc,hq⟩:=hcd
 rw [cf_eq hco hgen hbody hc]
 rw [hc] at h
 refine aC (m:=field (.ref c) 1) (gJ hoc hdc hq (aC (aI ?_)))
 exact aC (bQ h (fun binds s₁ h₁=>aC (bQ h₁ (fun env s₂ h₂=>aC (wpAny_enterFrame h₂.1 hroom
  (aI (And.intro rfl h₂.2)))) fun _ _ h'=>h')) fun _ _ h'=>h')
theorem m5 {id:String} {args:Args} {b:Builtin} (hq:(Code.builtin id args).quiet=true) (hd:decOk (.builtin id args)=true) (hb:entryFor table id=some b)
  (h:wpAny (model prog w) A.in1 (checkBuiltinCall id args) (fun _ s₁=>wpG (model prog w) (A.under (.builtin id args)) (b args)
   (fun fin s'=>match fin with | .done f=>R (.ok f) s' | .again c'=>c'.quiet=true∧codeG (model prog w) A c' R s') (fun e s'=>R (.error e) s') s₁)
   (fun e s'=>R (.error e) s') s):codeG (model prog w) A (.call (.builtin id) args) R s:=by
 refine dZ rfl (bV ?_)
 refine aC (bQ h (fun _ s₁ h₁=>aI (And.intro hq (dZ hd ?_))) fun _ _ h'=>h')
 show wpG _ _ (match entryFor table id with | some b=>b args | none=>unsupported ((withoutEnding? id "#data").getD id)) _ _ s₁
 rw [hb];exact h₁
end
section
variable {M:Model} {A:Around} {E:Value→Shared→Prop} {s:Shared} {env:Env}
theorem wpG_Call {func:Expr} {args:List Expr} {pos:Pos} {Q:Value→Shared→Prop}
  (h:wpG M A (eval func env) (fun f s₁=>wpG M A (callWith pos f [] (backTo pos (starEach args env)) []) Q E s₁) E s)
  (he:eval (.Call func args [] pos) env=(do callWith pos (←eval func env) [] (backTo pos (starEach args env)) (backToKw pos (keywordEach [] env)))):
  wpG M A (eval (.Call func args [] pos) env) Q E s:=by
 rw [he];exact aM h
theorem l9 {f:Value} {Q:Args→Shared→Prop}:∀{args:List (Bool×Sem Value)},args.any (·.1)=false→
  wpG M A (spliced args) (fun vs s'=>Q ⟨vs,[]⟩ s') E s→wpG M A (evalArgs f true args []) Q E s
 | [],_,h=>by
  unfold evalArgs
  refine aM (aO h (fun vs s' h'=>?_) fun _ _ x=>x)
  refine aM (aY ?_)
  refine bL ?_
  exact aM (aY (aM (aY (aY h'))))
 | (false,x)::r,_,h=>by
  unfold evalArgs
  refine aM (aO h (fun vs s' h'=>?_) fun _ _ x=>x)
  refine bL ?_
  exact aM (aY (aM (aY (aY h'))))
 | (true,x)::r,hp,_=>by simp at hp
theorem wpG_cut {α:Type} {c:Prop} [i:Decidable c] {x y:Sem α} {Q:α→Shared→Prop} (hx:wpG M A x Q E s) (hy:wpG M A y Q E s):wpG M A (if c then x else y) Q E s:=
 match i with
 | .isTrue _=>hx
 | .isFalse _=>hy
theorem wpG_callWith {P:Heap→Prop} {pos:Pos} {f:Value} {first:List Value} {args:List (Bool×Sem Value)} {Q:Value→Shared→Prop} (hplain:args.any (·.1)=false)
  (hk:∀h,P h→∃k,(k=Keeper.frame∨k=Keeper.machine∨k=Keeper.boundFrame)∧Looks M h (keeperOf f) k)
  (h:wpG M A (evalArgs f true args []) (fun a s₁=>P s₁.heap∧wpG M A (call f (first++a.pos) a.kw) Q E s₁) E s):wpG M A (callWith pos f first args []) Q E s:=by
 delta callWith
 refine aM (bL (aO h (fun a s₁ h₁=>bM ?_) fun _ _ x=>x))
 obtain ⟨k,hk',L⟩:=hk _ h₁.1
 rw [hplain]
 refine dC (L.here ?_)
 have tail:∀{t:Sem Value},wpG M A t Q E s₁→wpG M A (t >>=fun r=>holding [r] point >>=fun _=>pure r) Q E s₁:=
  fun ht=>aM (aO ht (fun r s₂ hr=>aM (bL (bV (wpAny_point (aY hr))))) fun _ _ x=>x)
 have marked (mk:Value):wpG M A (callMarked mk f (first++a.pos) a.kw) Q E s₁:=by unfold callMarked;exact wpG_keep h₁.2
 rcases hk' with rfl | rfl | rfl
 ·exact wpG_cut (tail h₁.2) (tail (marked _))
 ·exact tail h₁.2
 ·exact wpG_cut (tail h₁.2) (tail (marked _))
theorem wpG_callWith_builtin {pos:Pos} {id:String} {first:List Value} {args:List (Bool×Sem Value)} {Q:Value→Shared→Prop} (hplain:args.any (·.1)=false)
  (h:wpG M A (evalArgs (.builtin id) true args []) (fun a s₁=>wpG M A (call (.builtin id) (first++a.pos) a.kw) Q E s₁) E s):wpG M A (callWith pos (.builtin id) first args []) Q E s:=by
 delta callWith
 refine aM (bL (aO h (fun a s₁ h₁=>bM ?_) fun _ _ x=>x))
 rw [hplain]
 refine aM (aY ?_)
 exact aM (aO h₁ (fun r s₂ hr=>aM (bL (bV (wpAny_point (aY hr))))) fun _ _ x=>x)
theorem wpG_callWith_type {pos:Pos} {T:String} {first:List Value} {args:List (Bool×Sem Value)} {Q:Value→Shared→Prop} (hplain:args.any (·.1)=false)
  (h:wpG M A (evalArgs (.type T) true args []) (fun a s₁=>wpG M A (call (.type T) (first++a.pos) a.kw) Q E s₁) E s):wpG M A (callWith pos (.type T) first args []) Q E s:=by
 delta callWith
 refine aM (bL (aO h (fun a s₁ h₁=>bM ?_) fun _ _ x=>x))
 rw [hplain]
 refine aM (aY ?_)
 exact aM (aO h₁ (fun r s₂ hr=>aM (bL (bV (wpAny_point (aY hr))))) fun _ _ x=>x)
end
section
variable {prog:Program} {w:World} {A:Around} {C:Addr} {R:Result→Shared→Prop} {h:Heap} {g:Array GenState} {d:Drawn} {t:Nat} {os:OsState}
theorem codeG_make {rest:List Value} {init:Value} (Y:Makes (model prog w) h C) (hi:Looks (model prog w) h (typeLookup (.ref C) "__init__") (some init))
  (hb:∀self,Looks (model prog w) h (bindSpecial init self) (init,[self])) (hne:(some init !=some (Value.builtin "object.__init__"))=true)
  (hq:codeG (model prog w) (A.under (.builtin "type.__call__" ⟨.ref C::rest,[]⟩)) (.call init ⟨.ref (h.objs.size+1)::rest,[]⟩) (InitBack (h.objs.size+1) R) ⟨(h.push emptyDict).push (instObj C h.objs.size),g,d,t,os⟩):
  codeG (model prog w) A (.call (.ref C) ⟨rest,[]⟩) R ⟨h,g,d,t,os⟩:=by
 have Y':=Y
 obtain ⟨⟨oc,od,cd,sl,hC,e1,e2,e4⟩,made,base,self,top,call,typ⟩:=Y
 refine dZ rfl (bV ?_)
 refine nd_load hC ?_
 show wpAny _ _ (callAny.viaDunder (.ref C) _) _ _ _
 unfold callAny.viaDunder
 refine aC (call.here ?_)
 dsimp only
 rw [tc_bind]
 refine aC (aI (aC (aI ?_)))
 refine aI (a:=Fin.again (.call (.builtin "type.__call__") ⟨.ref C::rest,[]⟩)) (And.intro rfl ?_)
 refine m5 (Code.quiet_builtin _ (by decide+kernel)) (decOk_of (by decide+kernel)) entry_typeCall (check_slot tc_kind tc_split typ (tc_args _ _ _) ?_)
 unfold Builtin.«type.__call__»
 have hm:Looks (model prog w) h (mroOf (.ref C)) cd.mro:=((Looks.ld (part:=none) hC).andThen .now).andThen .now
 refine wpG_ite ?_
 rw [if_neg (show ¬((Value.ref C==Value.type "type")=true) from pO)]
 refine dC (hm.here ?_)
 refine wpG_ite ?_
 rw [if_neg (by rw [e4];decide)]
 refine dC (made.here ?_)
 refine aM (aY ?_)
 refine aM (bL (bV (wpAny_call (new_K Y' hi (.inl hne) ?_))))
 have k:∀b o,h.get? b=some o→((h.push emptyDict).push (instObj C h.objs.size)).get? b=some o:=fun b o e=>Heap.get?_push_of_some _ (Heap.get?_push_of_some _ e)
 have hx:((h.push emptyDict).push (instObj C h.objs.size)).get? (h.objs.size+1)=some (instObj C h.objs.size):=by heap_get
 have t1:Looks (model prog w) ((h.push emptyDict).push (instObj C h.objs.size)) (typeOf (.ref (h.objs.size+1))) (.ref C):=(Looks.ld hx).andThen .now
 have s1:=self.keeps k
 have i1:=hi.keeps k
 have b1:=(hb (.ref (h.objs.size+1))).keeps k
 have inst:Looks (model prog w) ((h.push emptyDict).push (instObj C h.objs.size)) (isInstance (.ref (h.objs.size+1)) (.ref C)) true:=t1.andThen s1
 refine dC (inst.here ?_)
 refine wpG_ite ?_
 rw [if_neg (by decide)]
 have spec:Looks (model prog w) ((h.push emptyDict).push (instObj C h.objs.size)) (specialOf (.ref (h.objs.size+1)) (Str.ofString "__init__")) (some init):=t1.andThen i1
 refine aM (bL ?_)
 unfold callSpecial?
 refine dC (spec.here ?_)
 refine bL (dC (b1.here ?_))
 refine aM (oR (kY hq fun r s' z=>?_))
 rcases r with e | f
 ·exact z
 cases f <;> first | exact z.elim | skip
 obtain ⟨rfl,z⟩:=z
 refine aY ?_
 refine wpG_ite ?_
 rw [if_neg (by decide)]
 exact aY z
end
end Internal
end
section
namespace Internal
open PySem PySem.W PySem.Calls PyProof.Rows
open Sem (wp)
namespace FBA
theorem plainAttrs:PlainAttrs "bytearray" :=
 ⟨⟨"bytearray.__getattribute__",by rw [dG,b7];kernel_rfl,by decide+kernel⟩,by rw [dG,b7];kernel_rfl⟩
theorem owner:Manifest.owners.lookup (String.ofList ['y','a','r','r','a','e','t','y','b'].reverse)=some Manifest.sig_bytearray:=by kernel_rfl
theorem slot_append:Slot "bytearray" "append" "bytearray.append" :=
 .of (owner:= "bytearray") (n:= "append") (by rw [dG,b7];kernel_rfl) (by decide+kernel) (by decide+kernel) (by decide+kernel)
  (by first | exact .inl (by decide+kernel) | exact .inr (by decide+kernel)) (by rw [lP];kernel_rfl)
theorem slot_extend:Slot "bytearray" "extend" "bytearray.extend" :=
 .of (owner:= "bytearray") (n:= "extend") (by rw [dG,b7];kernel_rfl) (by decide+kernel) (by decide+kernel) (by decide+kernel)
  (by first | exact .inl (by decide+kernel) | exact .inr (by decide+kernel)) (by rw [lP];kernel_rfl)
theorem type_append:typeOf (.builtin "bytearray.append")=pure (.type "method_descriptor"):=by show builtinType _=_;rw [builtinType_eq_fast];kernel_rfl
theorem type_extend:typeOf (.builtin "bytearray.extend")=pure (.type "method_descriptor"):=by show builtinType _=_;rw [builtinType_eq_fast];kernel_rfl
theorem entry_append:entryFor table "bytearray.append" =some Builtin.«bytearray.append»:=entryFor_of_tree (by kernel_rfl)
theorem entry_extend:entryFor table "bytearray.extend" =some Builtin.«bytearray.extend»:=entryFor_of_tree (by kernel_rfl)
theorem args_append (a b:Value):argsOk "bytearray.append" ⟨[a,b],[]⟩:=by
 unfold argsOk;rw [signature?_of (id:= "bytearray.append") (n:=['d','n','e','p','p','a']) (o:=['y','a','r','r','a','e','t','y','b']) (by kernel_rfl) owner];kernel_rfl
theorem args_extend (a b:Value):argsOk "bytearray.extend" ⟨[a,b],[]⟩:=by
 unfold argsOk;rw [signature?_of (id:= "bytearray.extend") (n:=['d','n','e','t','x','e']) (o:=['y','a','r','r','a','e','t','y','b']) (by kernel_rfl) owner];kernel_rfl
theorem buf_bytes:typeLookup (.type "bytes") "__buffer__" =pure (some (.builtin "bytes.__buffer__")):=by rw [dG,b7];kernel_rfl
theorem buf_bytearray:typeLookup (.type "bytearray") "__buffer__" =pure (some (.builtin "bytearray.__buffer__")):=by rw [dG,b7];kernel_rfl
end FBA
section
variable {α:Type} {M:Model} {A:Around} {E:Value→Shared→Prop} {s:Shared}
theorem wpG_yes {c:Bool} {a b:Sem α} {Q:α→Shared→Prop} (hc:c=true) (h:wpG M A a Q E s):wpG M A (if c=true then a else b) Q E s:=by subst hc;exact h
theorem wpG_no {c:Bool} {a b:Sem α} {Q:α→Shared→Prop} (hc:c=false) (h:wpG M A b Q E s):wpG M A (if c=true then a else b) Q E s:=by subst hc;exact h
theorem any_false_of {f:Code×Pos→Bool} {l:List (Code×Pos)} (h:∀x∈l,f x=false):l.any f=false:=by
 rw [List.any_eq_false]
 intro x hx
 rw [h x hx];decide
theorem decOk_not {id:String} {args:Args} (h:decOk (.builtin id args)=true) (q:(!(Builtin.Bytes.decodersThatHold.contains id) && !(guardIds.contains id))=false):False:=by
 have h':(!(Builtin.Bytes.decodersThatHold.contains id) && !(guardIds.contains id))=true:=h
 rw [q] at h';cases h'
theorem dn {c:Prop} [Decidable c] {t:c→Bool} {e:¬c→Bool} (n:¬c) (h:e n=false):dite c t e=false:=(dif_neg n).trans h
theorem wpG_exported {self:Value} {Q:Bool→Shared→Prop} (h:Q false s):wpG M A (Builtin.Bytes.exported self) Q E s:=fun Γ p hΓ hC=>by
 show Q (((Γ.code,p)::Γ.below).any _) s
 refine Eq.mpr (congrArg (fun b=>Q b s) (any_false_of fun x hx=>?_)) h
 have hok:decOk x.1=true:=(bN.mp hx).elim (fun q=>q▸hC.1) (hC.2 x)
 clear hx h
 obtain ⟨c,p'⟩:=x
 cases c with
 | builtin id args=>
  have ne:∀i:String,(!(Builtin.Bytes.decodersThatHold.contains i) && !(guardIds.contains i))=false→¬id=i:=fun i q e=>decOk_not hok (e▸q)
  delta Builtin.Bytes.exported.match_1
  refine dn (ne "bytearray.__contains__" (by decide+kernel)) ?_
  refine dn (ne "bytearray.__mod__" (by decide+kernel)) ?_
  refine dn (ne "bytearray.__rmod__" (by decide+kernel)) ?_
  refine dn (ne "_struct.pack_into.held" (by decide+kernel)) ?_
  refine dn (ne "bytearray.find.held" (by decide+kernel)) ?_
  obtain ⟨pos,kw⟩:=args
  cases pos with
  | nil=>rfl
  | cons v r=>
   have hh:(!(Builtin.Bytes.decodersThatHold.contains id) && !(guardIds.contains id))=true:=hok
   rw [hV,Bool.not_eq_true'] at hh
   show (_ && Builtin.Bytes.decodersThatHold.contains id)=false
   rw [hh.1,Bool.and_false]
 | _=>rfl
noncomputable def pJ (h:Heap) (a:Addr) (b:Array UInt8):Prop:=h.get? a=some {cls:=.type "bytearray",data:=.bytearray b 0}
theorem wpG_checkResize {a:Addr} {b:Array UInt8} {Q:Unit→Shared→Prop} (hb:pJ s.heap a b) (h:Q () s):wpG M A (Builtin.Bytes.checkResize (.ref a)) Q E s:=by
 unfold Builtin.Bytes.checkResize
 refine aM ?_
 refine aM (wpG_exported ?_)
 show wpG M A (Builtin.Bytes.exportsOf (.ref a) >>=fun n=>pure (decide (n > 0))) _ _ _
 unfold Builtin.Bytes.exportsOf
 refine aM (bV (aC (kQ hb (aI ?_))))
 refine aY ?_
 rw [if_neg (by decide)]
 exact aY h
theorem wpAny_write {a:Addr} {b:Array UInt8} {f:Array UInt8→Array UInt8} {Q:Unit→Shared→Prop} (hb:pJ s.heap a b) (hz:(f b).size≤sizeLine)
  (h:∀h',pJ h' a (f b)→Heap.SameBut a s.heap h'→Q () {s with heap:=h'}):wpAny M A (Builtin.Bytes.write (.ref a) f) Q E s:=by
 unfold Builtin.Bytes.write updateBytearray
 refine aC (kQ hb ?_)
 have hn:(s.heap.update a (Obj.mapBytearray f)).get? a=some (Obj.mapBytearray f {cls:=.type "bytearray",data:=.bytearray b 0}):=Heap.get?_update_self _ hb rfl
 refine aC (wpAny_update hb ?_)
 refine wpAny_lookBehind hn ?_ (h _ hn ⟨Heap.size_update _ _ _,fun c hc=>Heap.get?_update_other _ _ (Ne.symm hc)⟩)
 show (if (f b).size > sizeLine then some "bytearray:memory" else none)=none
 rw [if_neg (bK.mpr hz)]
theorem wpG_write {a:Addr} {b:Array UInt8} {f:Array UInt8→Array UInt8} {β:Type} {k:Unit→Sem β} {Q:β→Shared→Prop} (hb:pJ s.heap a b) (hz:(f b).size≤sizeLine)
  (h:∀h',pJ h' a (f b)→Heap.SameBut a s.heap h'→wpG M A (k ()) Q E {s with heap:=h'}):wpG M A (Builtin.Bytes.write (.ref a) f >>=k) Q E s:=dC (wpAny_write hb hz h)
end
namespace FBA
theorem rel_bytes:typeLookup (.type "bytes") "__release_buffer__" =pure none:=by rw [dG,b7];kernel_rfl
theorem rel_bytearray:typeLookup (.type "bytearray") "__release_buffer__" =pure (some (.builtin "bytearray.__release_buffer__")):=by rw [dG,b7];kernel_rfl
theorem sub_ba:isSubtype (.type "bytearray") (.type "bytearray")=pure true:=by rw [lP];kernel_rfl
end FBA
section
variable {M:Model} {A:Around} {E:Value→Shared→Prop} {s:Shared}
theorem own_yes {v:Value} {T:String} {nm id:String} {Q:Bool→Shared→Prop} (hT:s.TypeIs v T) (hl:typeLookup (.type T) (nm:Str)=pure (some (.builtin id))) (he:id.endsWith ("." ++nm)=true) (hd:id.dropRight (nm.length+1)=T)
  (hs:isSubtype (.type T) (.type T)=pure true) (h:Q true s):wpAny M A (Builtin.Bytes.slotIsOwn v nm) Q E s:=by
 unfold Builtin.Bytes.slotIsOwn
 refine aC (dF hT hl ?_)
 try dsimp only
 refine wpAny_ite ?_
 rw [if_neg (by rw [he];decide),hd]
 exact mR hT hs h
theorem buffer_bytes {c:Array UInt8} {t:Tok} {id:String} {full:Bool} {Q:Option (Array UInt8)→Shared→Prop} (h:Q (some c) s):wpAny M A (Builtin.Bytes.buffer? id (.bytes c t) full) Q E s:=by
 have hT:=eG s c t
 unfold Builtin.Bytes.buffer?
 refine aC (dF hT FBA.buf_bytes ?_)
 try dsimp only
 refine aC (own_yes hT FBA.buf_bytes (by decide+kernel) (by decide+kernel) F.sub_bytes_bytes ?_)
 refine wpAny_ite ?_
 rw [if_neg (by decide)]
 refine aC (dF hT FBA.buf_bytes ?_)
 try dsimp only
 unfold Builtin.Bytes.ownRelease Builtin.Bytes.slotIsOwn
 refine aC (aC (aC (dF hT FBA.rel_bytes (aI (aI ?_)))))
 refine wpAny_ite ?_
 rw [if_neg (by decide)]
 exact aC (dA (a:=c) rfl (aI h))
theorem buffer_ba {a:Addr} {b:Array UInt8} {id:String} {full:Bool} {Q:Option (Array UInt8)→Shared→Prop} (hb:pJ s.heap a b) (h:Q (some b) s):wpAny M A (Builtin.Bytes.buffer? id (.ref a) full) Q E s:=by
 have hT:s.TypeIs (.ref a) "bytearray" :=⟨_,hb,rfl⟩
 unfold Builtin.Bytes.buffer?
 refine aC (dF hT FBA.buf_bytearray ?_)
 try dsimp only
 refine aC (own_yes hT FBA.buf_bytearray (by decide+kernel) (by decide+kernel) FBA.sub_ba ?_)
 refine wpAny_ite ?_
 rw [if_neg (by decide)]
 refine aC (dF hT FBA.buf_bytearray ?_)
 try dsimp only
 unfold Builtin.Bytes.ownRelease
 refine aC (aC (own_yes hT FBA.rel_bytearray (by decide+kernel) (by decide+kernel) FBA.sub_ba (aI ?_)))
 refine wpAny_ite ?_
 rw [if_neg (by decide)]
 unfold Builtin.Bytes.payload Builtin.Bytes.payload?
 exact aC (aC (aC (kQ hb (aI (aI (aI h))))))
end
section
variable {prog:Program} {w:World} {A:Around} {E:Value→Shared→Prop} {s:Shared}
theorem mO {T:String} {name:Str} {id:String} {b:Builtin} {self:Value} {rest:List Value} {Q:Value→Shared→Prop} (h:Slot T name id) (hT:s.TypeIs self T) (hd:decOk (.builtin id ⟨self::rest,[]⟩)=true)
  (hb:entryFor table id=some b) (ha:argsOk id ⟨self::rest,[]⟩)
  (hc:wpG (model prog w) A.in1 (b ⟨self::rest,[]⟩) (fun fin s'=>∃v,fin=.done (.ret v)∧Q v s') E s):wpG (model prog w) A (call (.builtin id) (self::rest)) Q E s:=by
 refine oR (m5 (plainId_quiet h.plain _) hd hb (h.check _ _ _ _ _ _ _ _ hT ha ?_))
 rw [nP h.plain _]
 refine aO hc (fun fin s' h'=>?_) fun _ _ h'=>h'
 obtain ⟨v,rfl,hv⟩:=h';exact hv
theorem kR {a:Addr} {b:Array UInt8} (hb:pJ s.heap a b):s.TypeIs (.ref a) "bytearray" :=⟨_,hb,rfl⟩
theorem ba_append {a:Addr} {b:Array UInt8} {v:Int} {t:Tok} {Q:Value→Shared→Prop} (hb:pJ s.heap a b) (hv:0≤v) (hv2:v < 256) (hz:b.size < sizeLine)
  (h:∀h',pJ h' a (b.push v.toNat.toUInt8)→Heap.SameBut a s.heap h'→Q .none {s with heap:=h'}):wpG (model prog w) A (call (.builtin "bytearray.append") [.ref a,.int v t]) Q E s:=by
 refine mO FBA.slot_append (kR hb) (decOk_of (by decide+kernel)) FBA.entry_append (FBA.args_append _ _) ?_
 show wpG _ _ (Builtin.Bytes.byteValue (.int v t) >>=fun c=>_) _ _ s
 refine aM ?_
 have hbv:Builtin.Bytes.byteValue (.int v t)=pure v.toNat.toUInt8:=by
  show (if (decide (v < 0) || decide (v ≥ 256))=true then _ else _)=_
  rw [if_neg (by simp;omega)]
 refine iW hbv ?_
 refine aM (wpG_checkResize hb ?_)
 refine wpG_write hb (by rw [Array.size_push];omega) fun h' hb' hs=>?_
 exact aY ⟨_,rfl,h h' hb' hs⟩
theorem ba_extend {a:Addr} {b c:Array UInt8} {t:Tok} {Q:Value→Shared→Prop} (hb:pJ s.heap a b) (hz:b.size+c.size≤sizeLine)
  (h:∀h',pJ h' a (b++c)→Heap.SameBut a s.heap h'→Q .none {s with heap:=h'}):wpG (model prog w) A (call (.builtin "bytearray.extend") [.ref a,.bytes c t]) Q E s:=by
 refine mO FBA.slot_extend (kR hb) (decOk_of (by decide+kernel)) FBA.entry_extend (FBA.args_extend _ _) ?_
 unfold Builtin.«bytearray.extend»
 have hT:=eG s c t
 refine aM (iW (a:=(.ref a,.bytes c t)) rfl ?_)
 try dsimp only
 refine dC (dF hT FBA.buf_bytes ?_)
 refine wpG_yes rfl ?_
 refine dC (kP ?_)
 delta Builtin.Bytes.payload Builtin.Bytes.payload?
 refine dC (aC (aC (kQ hb (aI (aI ?_)))))
 refine dC ?_
 unfold Builtin.Bytes.takeBufferQuiet?
 refine aC (wpAny_attempt ?_)
 unfold Builtin.Bytes.takeBuffer?
 refine aC (dF hT FBA.buf_bytes ?_)
 try dsimp only
 refine aC (own_yes hT FBA.buf_bytes (by decide+kernel) (by decide+kernel) F.sub_bytes_bytes ?_)
 refine wpAny_ite ?_
 rw [if_neg (by decide)]
 refine aC (dF hT FBA.buf_bytes ?_)
 try dsimp only
 refine aC (buffer_bytes (aI (aI ?_)))
 dsimp only [Option.map]
 refine wpG_yes rfl ?_
 show wpG _ _ (if (!c.isEmpty)=true then Builtin.Bytes.checkResize (.ref a) >>=fun _=>Builtin.Bytes.write (.ref a) (·++c) >>=fun _=>ret .none else Builtin.Bytes.write (.ref a) (·++c) >>=fun _=>ret .none) _ _ _
 have fin:wpG (model prog w) A.in1 (Builtin.Bytes.write (.ref a) (·++c) >>=fun _=>ret .none) (fun fin s'=>∃v,fin=.done (.ret v)∧Q v s') E s:=
  wpG_write hb (by rw [Array.size_append];exact hz) fun h' hb' hs=>aY ⟨_,rfl,h h' hb' hs⟩
 refine wpG_ite ?_
 split
 ·exact aM (wpG_checkResize hb fin)
 ·exact fin
end
end Internal
end
section
namespace Internal
open PySem PySem.W PySem.Calls PyProof.Rows
open Sem (wp)
namespace FBA
theorem mro:mroOf (.type "bytearray")=pure [.type "bytearray",.type "object"]:=by rw [mroOf_type];kernel_rfl
theorem lookup_new:typeLookup (.type "bytearray") "__new__" =pure (some (.builtin "bytearray.__new__")):=by rw [dG,b7];kernel_rfl
theorem slot_init:Slot "bytearray" "__init__" "bytearray.__init__" :=
 .of (owner:= "bytearray") (n:= "__init__") (by rw [dG,b7];kernel_rfl) (by decide+kernel) (by decide+kernel) (by decide+kernel)
  (by first | exact .inl (by decide+kernel) | exact .inr (by decide+kernel)) (by rw [lP];kernel_rfl)
theorem called:TypeCalled "bytearray" "bytearray.__new__" "bytearray.__init__" :=
 ⟨by decide+kernel,by decide+kernel,⟨_,_,mro⟩,madeBy_type mro lookup_new (by decide+kernel),by decide+kernel,by rw [lP];kernel_rfl,slot_init⟩
theorem typeCall0:checkTypeCall "bytearray" ⟨[],[]⟩=pure ():=by kernel_rfl
theorem newCall0:checkBuiltinCall "bytearray.__new__" ⟨[.type "bytearray"],[]⟩=pure ():=by kernel_rfl
theorem entry_new:entryFor table "bytearray.__new__" =some Builtin.«list.__new__»:=
 entryFor_alias (id':= "list.__new__") (by rw [fastTable_eq_tree];kernel_rfl) (by decide+kernel) (by decide+kernel) (by rw [fastTable_eq_tree];kernel_rfl)
theorem entry_init:entryFor table "bytearray.__init__" =some Builtin.«bytearray.__init__»:=entryFor_of_tree (by kernel_rfl)
theorem plain_new:plainId "bytearray.__new__" =true:=by decide+kernel
theorem args_init (a:Value):argsOk "bytearray.__init__" ⟨[a],[]⟩:=by
 unfold argsOk;rw [signature?_of (id:= "bytearray.__init__") (n:=['_','_','t','i','n','i','_','_']) (o:=['y','a','r','r','a','e','t','y','b']) (by kernel_rfl) owner];kernel_rfl
theorem noBytes:typeLookup (.type "bytearray") "__bytes__" =pure none:=by rw [dG,b7];kernel_rfl
theorem noIndex:typeLookup (.type "bytearray") "__index__" =pure none:=by rw [dG,b7];kernel_rfl
theorem bytes_bytes:typeLookup (.type "bytes") "__bytes__" =pure (some (.builtin "bytes.__bytes__")):=by rw [dG,b7];kernel_rfl
end FBA
set_option maxRecDepth 1000000 in
set_option maxHeartbeats 4000000 in
theorem owner_ba_new:("bytearray.__new__".splitOn ".__new__").headD "" = "bytearray" :=by simp+decide [String.splitOn,String.splitOnAux]
section
variable {prog:Program} {w:World} {A:Around} {E:Value→Shared→Prop} {s:Shared}
theorem code_ba_new {Q₁:Value→Shared→Prop} (h:Q₁ (.ref s.heap.objs.size) {s with heap:=s.heap.push {cls:=.type "bytearray",data:=.bytearray #[] 0}}):
  codeAny (model prog w) A (.call (.builtin "bytearray.__new__") ⟨[.type "bytearray"],[]⟩) (wants Q₁ E) s:=by
 refine codeAny_of_tree ?_
 show wpAny _ A.in1 (do checkBuiltinCall "bytearray.__new__" ⟨[.type "bytearray"],[]⟩;again (.builtin "bytearray.__new__" ⟨[.type "bytearray"],[]⟩)) _ _ s
 refine aC (dA FBA.newCall0 (aI ⟨plainId_quiet FBA.plain_new _,codeAny_builtin_stack FBA.entry_new rfl fun p st=>?_⟩))
 rw [nP FBA.plain_new _]
 have hsub:=FBA.sub_ba
 have hown:=owner_ba_new
 obtain ⟨hp,g,d,tk,os⟩:=s
 simp only [hown]
 wp_walk
 exact h
noncomputable def initS (a:Addr):Sem Fin:=do
 if←Builtin.Bytes.ownRelease (.ref a) then unsupported "bytearray.__init__:own-__release_buffer__-on-a-subclass"
 if←Builtin.Bytes.exported (.ref a) <||> (do return (←Builtin.Bytes.exportsOf (.ref a)) > 0) then
  if !(←Builtin.Bytes.payload (.ref a)).isEmpty then Builtin.Bytes.checkResize (.ref a)
  unsupported "bytearray.__init__:exported"
 Builtin.Bytes.write (.ref a) fun _=>#[]
 ret .none
theorem init_eq (a:Addr):Builtin.«bytearray.__init__» ⟨[.ref a],[]⟩=initS a:=by kernel_rfl
theorem init_ba {a:Addr} {Q:Value→Shared→Prop} (hb:pJ s.heap a #[]) (h:∀h',pJ h' a #[]→Heap.SameBut a s.heap h'→Q .none {s with heap:=h'}):
  wpG (model prog w) A (call (.builtin "bytearray.__init__") [.ref a]) Q E s:=by
 refine mO FBA.slot_init (kR hb) (decOk_of (by decide+kernel)) FBA.entry_init (FBA.args_init _) ?_
 rw [init_eq]
 unfold initS Builtin.Bytes.ownRelease
 refine dC (aC (own_yes (kR hb) FBA.rel_bytearray (by decide+kernel) (by decide+kernel) FBA.sub_ba (aI ?_)))
 refine wpG_no rfl ?_
 refine aM ?_
 refine aM (wpG_exported ?_)
 show wpG _ _ (Builtin.Bytes.exportsOf (.ref a) >>=fun n=>pure (decide (n > 0))) _ _ _
 unfold Builtin.Bytes.exportsOf
 refine aM (bV (aC (kQ hb (aI ?_))))
 refine aY ?_
 refine wpG_no rfl ?_
 refine wpG_write hb (cV _) fun h' hb' hs=>aY ⟨_,rfl,h h' hb' hs⟩
theorem codeG_builtin {id:String} {args:Args} {b:Builtin} {R:Result→Shared→Prop} (hd:decOk (.builtin id args)=true) (hb:entryFor table id=some b)
  (h:wpG (model prog w) (A.under (.builtin id args)) (b args) (fun fin s'=>match fin with | .done f=>R (.ok f) s' | .again c'=>c'.quiet=true∧codeG (model prog w) A c' R s') (fun e s'=>R (.error e) s') s):
  codeG (model prog w) A (.builtin id args) R s:=by
 refine dZ hd ?_
 show wpG _ _ (match entryFor table id with | some b=>b args | none=>unsupported ((withoutEnding? id "#data").getD id)) _ _ s
 rw [hb];exact h
theorem make_ba {Q:Value→Shared→Prop} (h:∀h',pJ h' s.heap.objs.size #[]→(∀b o,s.heap.get? b=some o→h'.get? b=some o)→Q (.ref s.heap.objs.size) {s with heap:=h'}):
  wpG (model prog w) A (call (.type "bytearray") []) Q E s:=by
 refine oR (dZ rfl ?_)
 show wpG _ _ (callAny (.type "bytearray") _) _ _ _
 refine aY ⟨Code.quiet_builtin _ (by decide+kernel),codeG_builtin (decOk_of (by decide+kernel)) F.entry_type_call ?_⟩
 unfold Builtin.«type.__call__»
 dsimp only
 refine wpG_no (by decide) ?_
 refine wpG_no FBA.called.canCreate ?_
 refine aM (iW FBA.typeCall0 ?_)
 refine aM (iW FBA.mro ?_)
 refine wpG_no rfl ?_
 refine aM (iW FBA.called.made ?_)
 dsimp only
 refine aM (aY ?_)
 refine aM (bL (bV (wpAny_call (code_ba_new ?_))))
 have hb:pJ (s.heap.push {cls:=.type "bytearray",data:=.bytearray #[] 0}) s.heap.objs.size #[]:=Heap.get?_push_size _ rfl
 have hT:({s with heap:=s.heap.push {cls:=.type "bytearray",data:=.bytearray #[] 0}}:Shared).TypeIs (.ref s.heap.objs.size) "bytearray" :=⟨_,hb,rfl⟩
 refine dC (mR hT FBA.sub_ba ?_)
 refine wpG_no rfl ?_
 refine aM (bL ?_)
 unfold callSpecial?
 refine dC (dF hT FBA.slot_init.lookup ?_)
 dsimp only
 refine bL (aM (iW (FBA.slot_init.bind _) ?_))
 dsimp only
 refine aM (init_ba hb fun h' hb' hs=>?_)
 refine aY ?_
 dsimp only
 refine wpG_no rfl ?_
 exact aY (h h' hb' fun c o e=>(hs.2 c (cJ (Heap.lt_size e))).trans (Heap.get?_push_of_some _ e))
theorem bytes_ba_new {a:Addr} {b:Array UInt8} {Q:Value→Shared→Prop} (hb:pJ s.heap a b) (hz:b.size≤sizeLine) (hQ:∀t k,Q (.bytes b t) {s with toks:=k}):
  codeAny (model prog w) A (.call (.builtin "bytes.__new__") ⟨[.type "bytes",.ref a],[]⟩) (wants Q E) s:=by
 refine codeAny_of_tree ?_
 show wpAny _ A.in1 (do checkBuiltinCall "bytes.__new__" ⟨[.type "bytes",.ref a],[]⟩;again (.builtin "bytes.__new__" ⟨[.type "bytes",.ref a],[]⟩)) _ _ s
 refine aC (dA (F.bm_newCall _) (aI ⟨plainId_quiet F.bm_plain _,codeAny_builtin F.bm_entry ?_⟩))
 rw [nP F.bm_plain _]
 have hT:=kR hb
 unfold Builtin.«bytes.__new__»
 refine aC (dA (a:=true) rfl ?_)
 refine nL rfl ?_
 refine aC (dA F.bm_sub ?_)
 refine nL rfl ?_
 refine aC (dA (F.bm_bind _) ?_)
 refine aC (dA (a:=()) rfl ?_)
 refine aC (dA (a:=()) rfl ?_)
 refine nL rfl ?_
 refine aC (dF hT FBA.noBytes ?_)
 refine aC (aC ?_)
 show wpAny _ _ (load a >>=_) _ _ _
 refine aC (kQ hb ?_)
 refine aI (aI ?_)
 refine nL rfl ?_
 refine aC (dF hT FBA.noIndex ?_)
 refine bm_if_true rfl ?_
 first
  | show wpAny _ _ (Builtin.Bytes.buffer? "bytes.__new__" (.ref a) true >>=_) _ _ _
  | (refine aC ?_;show wpAny _ _ (Builtin.Bytes.buffer? "bytes.__new__" (.ref a) true >>=_) _ _ _)
 refine aC (buffer_ba hb ?_)
 refine aC (kP ?_)
 refine aC (wpAny_mkBytes ?_ hz)
 refine bm_if_true (by decide) ?_
 first
  | exact aI (hQ _ _)
  | exact aC (aI (aI (hQ _ _)))
theorem call_bytes_ba {a:Addr} {b:Array UInt8} {Q:Value→Shared→Prop} (hb:pJ s.heap a b) (hz:b.size≤sizeLine) (hQ:∀t k,Q (.bytes b t) {s with toks:=k}):wpAny (model prog w) A (call (.type "bytes") [.ref a]) Q E s:=by
 refine callType_codes (Q₁:=fun obj s₁=>s₁.TypeIs obj "bytes" ∧Q obj s₁) F.bm_called (F.bm_typeCall _) F.entry_object_init
  (bytes_ba_new hb hz fun t k=>⟨PySem.W.typeIs_bytes _ _ _,hQ t k⟩) fun obj s₁ h₁=>?_
 exact ⟨h₁.1,F.args_object_init_2 obj _,object_init_meets F.bm_called.init.lookup F.bm_called.made (by decide) prog w A.in1 _ s₁ ⟨h₁.1,rfl,h₁.2⟩⟩
theorem bytes_bytes_new {c:Array UInt8} {t:Tok} {Q:Value→Shared→Prop} (hQ:Q (.bytes c t) s):
  codeAny (model prog w) A (.call (.builtin "bytes.__new__") ⟨[.type "bytes",.bytes c t],[]⟩) (wants Q E) s:=by
 refine codeAny_of_tree ?_
 refine aC (dA (F.bm_newCall _) (aI ⟨plainId_quiet F.bm_plain _,codeAny_builtin F.bm_entry ?_⟩))
 rw [nP F.bm_plain _]
 have hT:=eG s c t
 unfold Builtin.«bytes.__new__»
 refine aC (dA (a:=true) rfl ?_)
 refine nL rfl ?_
 refine aC (dA F.bm_sub ?_)
 refine nL rfl ?_
 refine aC (dA (F.bm_bind _) ?_)
 refine aC (dA (a:=()) rfl ?_)
 refine aC (dA (a:=()) rfl ?_)
 refine nL rfl ?_
 refine aC (dF hT FBA.bytes_bytes ?_)
 refine aC (kP ?_)
 refine aC (wpAny_typeOf hT ?_)
 refine bm_if_true (by decide) ?_
 refine bm_if_true (by decide) ?_
 first
  | exact aI hQ
  | exact aC (aI (aI hQ))
theorem call_bytes_bytes {c:Array UInt8} {t:Tok} {Q:Value→Shared→Prop} (hQ:Q (.bytes c t) s):wpAny (model prog w) A (call (.type "bytes") [.bytes c t]) Q E s:=by
 refine callType_codes (Q₁:=fun obj s₁=>s₁.TypeIs obj "bytes" ∧Q obj s₁) F.bm_called (F.bm_typeCall _) F.entry_object_init
  (bytes_bytes_new ⟨PySem.W.typeIs_bytes _ _ _,hQ⟩) fun obj s₁ h₁=>?_
 exact ⟨h₁.1,F.args_object_init_2 obj _,object_init_meets F.bm_called.init.lookup F.bm_called.made (by decide) prog w A.in1 _ s₁ ⟨h₁.1,rfl,h₁.2⟩⟩
end
end Internal
end
section
namespace Internal
open PySem
set_option genCtorIdx true in
inductive BOp where
 | add | sub | mul | fdiv | mod | pow | band | bor | shl | shr
 deriving DecidableEq
set_option genCtorIdx true in
inductive COp where
 | eq | ne | lt | le | gt | ge | is | isNot
 deriving DecidableEq
set_option genCtorIdx true in
inductive Bt where
 | len | bytes | tuple | sorted | min | range | bytearray
 deriving DecidableEq
set_option genCtorIdx true in
inductive Cls where
 | Cursor | Sink | Entry | ConfState | Snapshot | Message | ConfChange | Command
 deriving DecidableEq
set_option genCtorIdx true in
inductive Ex where
 | Corrupt | ShortOctets | BadOption | BadCommand
 deriving DecidableEq
noncomputable def At:Type:=Fin 28
 deriving DecidableEq
namespace At
noncomputable def data:At:=(0:Fin 28)
noncomputable def place:At:=(1:Fin 28)
noncomputable def parts:At:=(2:Fin 28)
noncomputable def term:At:=(3:Fin 28)
noncomputable def index:At:=(4:Fin 28)
noncomputable def kind:At:=(5:Fin 28)
noncomputable def voters:At:=(6:Fin 28)
noncomputable def learners:At:=(7:Fin 28)
noncomputable def outgoing:At:=(8:Fin 28)
noncomputable def learners_next:At:=(9:Fin 28)
noncomputable def auto_leave:At:=(10:Fin 28)
noncomputable def conf:At:=(11:Fin 28)
noncomputable def to:At:=(12:Fin 28)
noncomputable def frm:At:=(13:Fin 28)
noncomputable def log_term:At:=(14:Fin 28)
noncomputable def entries:At:=(15:Fin 28)
noncomputable def commit:At:=(16:Fin 28)
noncomputable def snapshot:At:=(17:Fin 28)
noncomputable def reject:At:=(18:Fin 28)
noncomputable def reject_hint:At:=(19:Fin 28)
noncomputable def context:At:=(20:Fin 28)
noncomputable def transition:At:=(21:Fin 28)
noncomputable def changes:At:=(22:Fin 28)
noncomputable def client:At:=(23:Fin 28)
noncomputable def number:At:=(24:Fin 28)
noncomputable def key:At:=(25:Fin 28)
noncomputable def value:At:=(26:Fin 28)
noncomputable def expect:At:=(27:Fin 28)
end At
set_option genCtorIdx true in
inductive Mt where
 | left | varint | lengthed | octet | flag | done | row | copy | size | encode | append | extend
 deriving DecidableEq
noncomputable def Fn:Type:=Fin 93
namespace Fn
noncomputable def write_groups:Fn:=(0:Fin 93)
noncomputable def read_groups:Fn:=(1:Fin 93)
noncomputable def put_varint:Fn:=(2:Fin 93)
noncomputable def read_varint:Fn:=(3:Fin 93)
noncomputable def put_varint32:Fn:=(4:Fin 93)
noncomputable def read_varint32:Fn:=(5:Fin 93)
noncomputable def varint_length:Fn:=(6:Fin 93)
noncomputable def put_fixed32:Fn:=(7:Fin 93)
noncomputable def put_fixed64:Fn:=(8:Fin 93)
noncomputable def read_lengthed:Fn:=(9:Fin 93)
noncomputable def Cursor_init:Fn:=(10:Fin 93)
noncomputable def Cursor_left:Fn:=(11:Fin 93)
noncomputable def Cursor_varint:Fn:=(12:Fin 93)
noncomputable def Cursor_lengthed:Fn:=(13:Fin 93)
noncomputable def Cursor_octet:Fn:=(14:Fin 93)
noncomputable def Cursor_flag:Fn:=(15:Fin 93)
noncomputable def Cursor_done:Fn:=(16:Fin 93)
noncomputable def Sink_init:Fn:=(17:Fin 93)
noncomputable def Sink_varint:Fn:=(18:Fin 93)
noncomputable def Sink_lengthed:Fn:=(19:Fin 93)
noncomputable def Sink_octet:Fn:=(20:Fin 93)
noncomputable def Sink_flag:Fn:=(21:Fin 93)
noncomputable def Sink_done:Fn:=(22:Fin 93)
noncomputable def rising:Fn:=(23:Fin 93)
noncomputable def take_count:Fn:=(24:Fin 93)
noncomputable def Entry_init:Fn:=(25:Fin 93)
noncomputable def Entry_row:Fn:=(26:Fin 93)
noncomputable def Entry_copy:Fn:=(27:Fin 93)
noncomputable def Entry_size:Fn:=(28:Fin 93)
noncomputable def encode_entry:Fn:=(29:Fin 93)
noncomputable def decode_entry:Fn:=(30:Fin 93)
noncomputable def limit_size:Fn:=(31:Fin 93)
noncomputable def ConfState_init:Fn:=(32:Fin 93)
noncomputable def ConfState_row:Fn:=(33:Fin 93)
noncomputable def ConfState_copy:Fn:=(34:Fin 93)
noncomputable def put_ids:Fn:=(35:Fin 93)
noncomputable def take_ids:Fn:=(36:Fin 93)
noncomputable def encode_conf:Fn:=(37:Fin 93)
noncomputable def decode_conf:Fn:=(38:Fin 93)
noncomputable def Snapshot_init:Fn:=(39:Fin 93)
noncomputable def Snapshot_row:Fn:=(40:Fin 93)
noncomputable def Snapshot_copy:Fn:=(41:Fin 93)
noncomputable def encode_snapshot:Fn:=(42:Fin 93)
noncomputable def decode_snapshot:Fn:=(43:Fin 93)
noncomputable def Message_init:Fn:=(44:Fin 93)
noncomputable def Message_row:Fn:=(45:Fin 93)
noncomputable def Message_copy:Fn:=(46:Fin 93)
noncomputable def encode_message:Fn:=(47:Fin 93)
noncomputable def decode_message:Fn:=(48:Fin 93)
noncomputable def kind_of_message:Fn:=(49:Fin 93)
noncomputable def ConfChange_init:Fn:=(50:Fin 93)
noncomputable def ConfChange_row:Fn:=(51:Fin 93)
noncomputable def encode_change:Fn:=(52:Fin 93)
noncomputable def decode_change:Fn:=(53:Fin 93)
noncomputable def Command_init:Fn:=(54:Fin 93)
noncomputable def Command_encode:Fn:=(55:Fin 93)
noncomputable def put_maybe:Fn:=(56:Fin 93)
noncomputable def take_maybe:Fn:=(57:Fin 93)
noncomputable def decode_command:Fn:=(58:Fin 93)
noncomputable def make_reply:Fn:=(59:Fin 93)
noncomputable def read_reply:Fn:=(60:Fin 93)
noncomputable def session_key:Fn:=(61:Fin 93)
noncomputable def client_of:Fn:=(62:Fin 93)
noncomputable def encode_session:Fn:=(63:Fin 93)
noncomputable def decode_session:Fn:=(64:Fin 93)
noncomputable def law_take:Fn:=(65:Fin 93)
noncomputable def law_field:Fn:=(66:Fin 93)
noncomputable def law_octs:Fn:=(67:Fin 93)
noncomputable def law_maybe:Fn:=(68:Fin 93)
noncomputable def law_var:Fn:=(69:Fin 93)
noncomputable def law_len:Fn:=(70:Fin 93)
noncomputable def law_opt:Fn:=(71:Fin 93)
noncomputable def law_cuts:Fn:=(72:Fin 93)
noncomputable def law_conf_row:Fn:=(73:Fin 93)
noncomputable def law_entry_row:Fn:=(74:Fin 93)
noncomputable def law_snap_row:Fn:=(75:Fin 93)
noncomputable def law_message_row:Fn:=(76:Fin 93)
noncomputable def law_command_row:Fn:=(77:Fin 93)
noncomputable def law_read:Fn:=(78:Fin 93)
noncomputable def law_read_command:Fn:=(79:Fin 93)
noncomputable def law_whole:Fn:=(80:Fin 93)
noncomputable def law_entry_octets:Fn:=(81:Fin 93)
noncomputable def law_conf_octets:Fn:=(82:Fin 93)
noncomputable def law_snap_octets:Fn:=(83:Fin 93)
noncomputable def law_change_octets:Fn:=(84:Fin 93)
noncomputable def law_message_octets:Fn:=(85:Fin 93)
noncomputable def law_conf:Fn:=(86:Fin 93)
noncomputable def law_mixed:Fn:=(87:Fin 93)
noncomputable def law_raft:Fn:=(88:Fin 93)
noncomputable def law_command_octets:Fn:=(89:Fin 93)
noncomputable def law_refused_command:Fn:=(90:Fin 93)
noncomputable def law_commands:Fn:=(91:Fin 93)
noncomputable def law:Fn:=(92:Fin 93)
end Fn
inductive M where
 | cN | cB (b:Bool) | cI (i:Int) | cS | cY (b:List Nat)
 | glob (k:Nat)
 | loc (i:Nat)
 | bin (op:BOp) (a b:M)
 | neg (a:M) | not (a:M) | and (a b:M) | or (a b:M)
 | cmp (op:COp) (a b:M)
 | ife (c a b:M)
 | attr (a:M) (n:At)
 | idx (a b:M) | slc (a lo hi:M)
 | tup (l:M) | lst (l:M)
 | call (f:Fn) (l:M) | new (c:Cls) (l:M) | meth (o:M) (m:Mt) (l:M) | blt (f:Bt) (l:M)
 | comp (elt:M) (tg:Nat) (it:M) (ifs:M) (caps:List Nat)
 | fstr (l:M)
 | nil | cons (a l:M)
 | sE (e:M) | sA (i:Nat) (e:M) | sT (is:List Nat) (e:M) | sAt (o:M) (n:At) (e:M) | sIx (o i e:M)
 | sG (i:Nat) (op:BOp) (e:M) | sGA (o:M) (n:At) (op:BOp) (e:M)
 | sIf (c t e:M) | sW (c b:M) | sF (tg:List Nat) (one:Bool) (it b:M)
 | sR (e:M) | sR0 | sX (x:Ex) (l:M) | sTry (b:M) (x:Ex) (h:M) | sP | sBrk
noncomputable def M.ix (m:M):Nat:=@M.casesOn (fun _=>Nat) m 0 (fun _=>1) (fun _=>2) 3 (fun _=>4) (fun _=>5) (fun _=>6) (fun _ _ _=>7) (fun _=>8) (fun _=>9) (fun _ _=>10) (fun _ _=>11) (fun _ _ _=>12) (fun _ _ _=>13) (fun _ _=>14) (fun _ _=>15) (fun _ _ _=>16) (fun _=>17) (fun _=>18) (fun _ _=>19) (fun _ _=>20) (fun _ _ _=>21) (fun _ _=>22) (fun _ _ _ _ _=>23) (fun _=>24) 25 (fun _ _=>26) (fun _=>27) (fun _ _=>28) (fun _ _=>29) (fun _ _ _=>30) (fun _ _ _=>31) (fun _ _ _=>32) (fun _ _ _ _=>33) (fun _ _ _=>34) (fun _ _=>35) (fun _ _ _ _=>36) (fun _=>37) 38 (fun _ _=>39) (fun _ _ _=>40) 41 42
noncomputable def M.ofList:List M→M
 | []=>.nil
 | a::l=>.cons a (M.ofList l)
noncomputable def seqL:List Nat→List Nat→Bool
 | [],[]=>true
 | a::x,b::y=>Nat.beq a b && seqL x y
 | _,_=>false
theorem nF {a:Bool} (h:(!a)=true):a=false:=Bool.casesOn (motive:=fun a=>(!a)=true→a=false) a (fun _=>rfl) (fun h=>h.symm) h
theorem bfE {G:Prop} (h:false=true):G:=nomatch h
theorem aL {a b:Bool} (h:(a && b)=true):a=true:=(fD.mp h).1
theorem aR {a b:Bool} (h:(a && b)=true):b=true:=(fD.mp h).2
theorem seqL_eq {x:List Nat}:∀{y:List Nat},seqL x y=true→x=y:=by
 induction x with
 | nil=>exact fun {y}=>List.casesOn y (fun _=>rfl) fun _ _ h=>bfE h
 | cons a x ih=>exact fun {y}=>List.casesOn y (fun h=>bfE h) fun b y h=>congr (congrArg List.cons (i0 (aL h))) (ih (aR h))
noncomputable def sEq (a b:Str):Bool:=seqL a.cps.toList b.cps.toList
theorem sEq_eq {a b:Str} (h:sEq a b=true):a=b:=by
 cases a;cases b
 simp only [sEq] at h
 exact congrArg Str.mk (Array.toList_inj.mp (seqL_eq h))
noncomputable def look {α:Type} (x:Str):List (Str×α)→Option α
 | []=>none
 | y::r=>cond (sEq x y.1) (some y.2) (look x r)
theorem cond_ind {α:Type} {b:Bool} {u v:α} {P:α→Prop} (h:P (cond b u v)):b=true∧P u∨b=false∧P v:=by
 cases b
 ·exact .inr ⟨rfl,h⟩
 ·exact .inl ⟨rfl,h⟩
theorem ite_ind {α:Type} {p:Prop} [i:Decidable p] {u v:α} {P:α→Prop} (h:P (ite p u v)):p∧P u∨¬p∧P v:=by
 cases i with
 | isFalse q=>exact .inr ⟨q,h⟩
 | isTrue q=>exact .inl ⟨q,h⟩
theorem ite_of {α:Type} {p:Prop} [i:Decidable p] {u v:α} {P:α→Prop} (h:p→P u) (k:¬p→P v):P (ite p u v):=by
 cases i with
 | isFalse q=>exact k q
 | isTrue q=>exact h q
theorem cond_of {α:Type} {b:Bool} {u v:α} {P:α→Prop} (h:b=true→P u) (k:b=false→P v):P (cond b u v):=by
 cases b
 ·exact k rfl
 ·exact h rfl
theorem look_mem {α:Type} {x:Str} {a:α} {l:List (Str×α)}:look x l=some a→(x,a)∈l:=by
 induction l with
 | nil=>exact fun h=>nomatch h
 | cons y r ih=>
  exact fun h=>(cond_ind (P:=(·=some a)) h).elim (fun q=>by rw [sEq_eq q.1,←Option.some.inj q.2];exact .head _) fun q=>.tail _ (ih q.2)
noncomputable def idxOf (x:Str):List Str→Option Nat
 | []=>none
 | y::r=>cond (sEq x y) (some 0) ((idxOf x r).map (·+1))
noncomputable def Bt.name:Bt→Str
 | .len=> "len" | .bytes=> "bytes" | .tuple=> "tuple" | .sorted=> "sorted" | .min=> "min" | .range=> "range" | .bytearray=> "bytearray"
noncomputable def Cls.name:Cls→Str
 | .Cursor=> "Cursor" | .Sink=> "Sink" | .Entry=> "Entry" | .ConfState=> "ConfState" | .Snapshot=> "Snapshot" | .Message=> "Message" | .ConfChange=> "ConfChange" | .Command=> "Command"
noncomputable def Ex.name:Ex→Str
 | .Corrupt=> "Corrupt" | .ShortOctets=> "ShortOctets" | .BadOption=> "BadOption" | .BadCommand=> "BadCommand"
noncomputable def atNames:List Str:=["data", "at", "parts", "term", "index", "kind", "voters", "learners", "outgoing", "learners_next", "auto_leave", "conf", "to", "frm", "log_term", "entries", "commit", "snapshot", "reject", "reject_hint", "context", "transition", "changes", "client", "number", "key", "value", "expect"]
noncomputable def nthS:List Str→Nat→Str
 | [],_=> ""
 | x::_,0=>x
 | _::r,n+1=>nthS r n
noncomputable def At.name (n:At):Str:=nthS atNames n.val
noncomputable def Mt.name:Mt→Str
 | .left=> "left" | .varint=> "varint" | .lengthed=> "lengthed" | .octet=> "octet" | .flag=> "flag" | .done=> "done" | .row=> "row" | .copy=> "copy" | .size=> "size"
 | .encode=> "encode" | .append=> "append" | .extend=> "extend"
noncomputable def btTab:List (Str×Bt):=[Bt.len,.bytes,.tuple,.sorted,.min,.range,.bytearray].map fun b=>(b.name,b)
noncomputable def clsTab:List (Str×Cls):=[Cls.Cursor,.Sink,.Entry,.ConfState,.Snapshot,.Message,.ConfChange,.Command].map fun b=>(b.name,b)
noncomputable def exTab:List (Str×Ex):=[Ex.Corrupt,.ShortOctets,.BadOption,.BadCommand].map fun b=>(b.name,b)
noncomputable def atTab:List (Str×At):=[At.data,.place,.parts,.term,.index,.kind,.voters,.learners,.outgoing,.learners_next,.auto_leave,.conf,.to,.frm,.log_term,.entries,.commit,.snapshot,.reject,.reject_hint,
 .context,.transition,.changes,.client,.number,.key,.value,.expect].map fun b=>(b.name,b)
noncomputable def mtTab:List (Str×Mt):=[Mt.left,.varint,.lengthed,.octet,.flag,.done,.row,.copy,.size,.encode,.append,.extend].map fun b=>(b.name,b)
noncomputable def fnTabS:List (String×Fn):=[("write_groups",.write_groups),("read_groups",.read_groups),("put_varint",.put_varint),("read_varint",.read_varint),("put_varint32",.put_varint32),("read_varint32",.read_varint32),
 ("varint_length",.varint_length),("put_fixed32",.put_fixed32),("put_fixed64",.put_fixed64),("read_lengthed",.read_lengthed),("rising",.rising),("take_count",.take_count),("encode_entry",.encode_entry),
 ("decode_entry",.decode_entry),("limit_size",.limit_size),("put_ids",.put_ids),("take_ids",.take_ids),("encode_conf",.encode_conf),("decode_conf",.decode_conf),("encode_snapshot",.encode_snapshot),
 ("decode_snapshot",.decode_snapshot),("encode_message",.encode_message),("decode_message",.decode_message),("kind_of_message",.kind_of_message),("encode_change",.encode_change),("decode_change",.decode_change),
 ("put_maybe",.put_maybe),("take_maybe",.take_maybe),("decode_command",.decode_command),("make_reply",.make_reply),("read_reply",.read_reply),("session_key",.session_key),("client_of",.client_of),
 ("encode_session",.encode_session),("decode_session",.decode_session),("_law_take",.law_take),("_law_field",.law_field),("_law_octs",.law_octs),("_law_maybe",.law_maybe),("_law_var",.law_var),("_law_len",.law_len),
 ("_law_opt",.law_opt),("_law_cuts",.law_cuts),("_law_conf_row",.law_conf_row),("_law_entry_row",.law_entry_row),("_law_snap_row",.law_snap_row),("_law_message_row",.law_message_row),("_law_command_row",.law_command_row),
 ("_law_read",.law_read),("_law_read_command",.law_read_command),("_law_whole",.law_whole),("_law_entry_octets",.law_entry_octets),("_law_conf_octets",.law_conf_octets),("_law_snap_octets",.law_snap_octets),
 ("_law_change_octets",.law_change_octets),("_law_message_octets",.law_message_octets),("_law_conf",.law_conf),("_law_mixed",.law_mixed),("_law_raft",.law_raft),("_law_command_octets",.law_command_octets),
 ("_law_refused_command",.law_refused_command),("_law_commands",.law_commands),("law",.law)]
noncomputable def fnTab:List (Str×Fn):=fnTabS.map fun y=>(Str.ofString y.1,y.2)
noncomputable def methTab:List (Cls×String×Fn):=[(.Cursor, "__init__",.Cursor_init),(.Cursor, "left",.Cursor_left),(.Cursor, "varint",.Cursor_varint),(.Cursor, "lengthed",.Cursor_lengthed),(.Cursor, "octet",.Cursor_octet),(.Cursor, "flag",.Cursor_flag),(.Cursor, "done",.Cursor_done),
 (.Sink, "__init__",.Sink_init),(.Sink, "varint",.Sink_varint),(.Sink, "lengthed",.Sink_lengthed),(.Sink, "octet",.Sink_octet),(.Sink, "flag",.Sink_flag),(.Sink, "done",.Sink_done),
 (.Entry, "__init__",.Entry_init),(.Entry, "row",.Entry_row),(.Entry, "copy",.Entry_copy),(.Entry, "size",.Entry_size),
 (.ConfState, "__init__",.ConfState_init),(.ConfState, "row",.ConfState_row),(.ConfState, "copy",.ConfState_copy),
 (.Snapshot, "__init__",.Snapshot_init),(.Snapshot, "row",.Snapshot_row),(.Snapshot, "copy",.Snapshot_copy),
 (.Message, "__init__",.Message_init),(.Message, "row",.Message_row),(.Message, "copy",.Message_copy),
 (.ConfChange, "__init__",.ConfChange_init),(.ConfChange, "row",.ConfChange_row),
 (.Command, "__init__",.Command_init),(.Command, "encode",.Command_encode)]
noncomputable def Cls.init:Cls→Fn
 | .Cursor=>.Cursor_init | .Sink=>.Sink_init | .Entry=>.Entry_init | .ConfState=>.ConfState_init | .Snapshot=>.Snapshot_init | .Message=>.Message_init | .ConfChange=>.ConfChange_init | .Command=>.Command_init
noncomputable def methOf:Cls→Mt→Option Fn
 | .Cursor,.left=>some .Cursor_left | .Cursor,.varint=>some .Cursor_varint | .Cursor,.lengthed=>some .Cursor_lengthed | .Cursor,.octet=>some .Cursor_octet | .Cursor,.flag=>some .Cursor_flag | .Cursor,.done=>some .Cursor_done
 | .Sink,.varint=>some .Sink_varint | .Sink,.lengthed=>some .Sink_lengthed | .Sink,.octet=>some .Sink_octet | .Sink,.flag=>some .Sink_flag | .Sink,.done=>some .Sink_done
 | .Entry,.row=>some .Entry_row | .Entry,.copy=>some .Entry_copy | .Entry,.size=>some .Entry_size
 | .ConfState,.row=>some .ConfState_row | .ConfState,.copy=>some .ConfState_copy
 | .Snapshot,.row=>some .Snapshot_row | .Snapshot,.copy=>some .Snapshot_copy
 | .Message,.row=>some .Message_row | .Message,.copy=>some .Message_copy
 | .ConfChange,.row=>some .ConfChange_row
 | .Command,.encode=>some .Command_encode
 | _,_=>none
inductive GV where
 | int (i:Int) | bytes (b:List Nat)
noncomputable def globTabS:List (String×GV):=[("MAX_32",.int 4294967295),("MAX_64",.int 18446744073709551615),("MSG_PIECE",.int 20),("ENTRY_NORMAL",.int 0),("ENTRY_CONF",.int 2),("ADD_LEARNER",.int 3),("AUTO",.int 0),("EXPLICIT",.int 2),
 ("CMD_NONE",.int 0),("CMD_CLOSE",.int 6),("REPLY_STALE",.int 3),("SESSION_HEAD",.bytes [115])]
noncomputable def globTab:List (Str×GV):=globTabS.map fun y=>(Str.ofString y.1,y.2)
noncomputable def j0 (x:Str):Bool:=sEq x "__debug__" || sEq x "__classdict__"
noncomputable def gC (sc:Scope) (x:Str):Bool:=decide (look x sc.names=some .globalImplicit) && !j0 x
noncomputable def isVar (sc:Scope) (x:Str):Bool:=(decide (look x sc.names=some .local) || (decide (look x sc.names=some .cell) || decide (look x sc.names=some .free))) && !j0 x
noncomputable def o7 (sc:Scope) (vars:List Str) (x:Str):Option Nat:=match isVar sc x with
 | true=>idxOf x vars
 | false=>none
noncomputable def bO (sc:Scope):List Str:=sc.names.filterMap fun y=>match y.2 with
 | .free=>some y.1
 | _=>none
noncomputable def memS (x:Str):List Str→Bool
 | []=>false
 | y::r=>sEq x y || memS x r
noncomputable def nodupS:List Str→Bool
 | []=>true
 | x::r=>!memS x r && nodupS r
noncomputable def compOk (sc sc':Scope) (xs:List Str):Bool:=
 decide (sc'.kind=.function) && ((sc'.names.all fun y=>decide (y.2≠.cell)) && (nodupS (sc'.names.map (·.1)) && (nodupS xs && (!xs.isEmpty && ((xs.all fun x=>decide (look x sc'.names=some .local) && !j0 x) &&
 (bO sc').all fun x=>(decide (look x sc.names=some .cell) || decide (look x sc.names=some .free)) && !j0 x)))))
noncomputable def notS (a:M):Bool:=!Nat.beq a.ix 3
noncomputable def notTuple (e:Expr):Bool:=!Nat.beq e.ctorIdx 25
noncomputable def isComp (e:Expr):Bool:=Nat.ble 8 e.ctorIdx && Nat.ble e.ctorIdx 10
noncomputable def plainCall (as:List Expr) (f:Expr):Bool:=(Nat.beq f.ctorIdx 23 && !as.isEmpty) || Nat.beq f.ctorIdx 20
inductive View (e:Expr) where
 | boolop (op:BoolOp) (es:List Expr) (p:Pos) (h:e=.BoolOp op es p)
 | binop (l:Expr) (op:Operator) (r:Expr) (p:Pos) (h:e=.BinOp l op r p)
 | unop (op:UnaryOp) (a:Expr) (p:Pos) (h:e=.UnaryOp op a p)
 | ife (c a b:Expr) (p:Pos) (h:e=.IfExp c a b p)
 | comp (elt:Expr) (gs:List Comprehension) (sc:Scope) (p:Pos) (h:e=.ListComp elt gs sc p)
 | cmp (l:Expr) (ops:List CmpOp) (rs:List Expr) (p:Pos) (h:e=.Compare l ops rs p)
 | call (f:Expr) (as:List Expr) (kw:List Keyword) (p:Pos) (h:e=.Call f as kw p)
 | fmt (a:Expr) (c:Int) (f:Option Expr) (p:Pos) (h:e=.FormattedValue a c f p)
 | joined (es:List Expr) (p:Pos) (h:e=.JoinedStr es p)
 | const (c:Const) (k:Nat) (p:Pos) (h:e=.Constant c k p)
 | attr (o:Expr) (x:Str) (p:Pos) (h:e=.Attribute o x p)
 | sub (o i:Expr) (p:Pos) (h:e=.Subscript o i p)
 | name (x:Str) (p:Pos) (h:e=.Name x p)
 | list (es:List Expr) (p:Pos) (h:e=.List es p)
 | tuple (es:List Expr) (k:Nat) (p:Pos) (h:e=.Tuple es k p)
 | slice (a b c:Option Expr) (p:Pos) (h:e=.Slice a b c p)
 | other
noncomputable def view (e:Expr):View e:=match e with
 | .BoolOp op es p=>.boolop op es p rfl
 | .BinOp l op r p=>.binop l op r p rfl
 | .UnaryOp op a p=>.unop op a p rfl
 | .IfExp c a b p=>.ife c a b p rfl
 | .ListComp e gs sc p=>.comp e gs sc p rfl
 | .Compare l ops rs p=>.cmp l ops rs p rfl
 | .Call f as kw p=>.call f as kw p rfl
 | .FormattedValue a c f p=>.fmt a c f p rfl
 | .JoinedStr es p=>.joined es p rfl
 | .Constant c k p=>.const c k p rfl
 | .Attribute o x p=>.attr o x p rfl
 | .Subscript o i p=>.sub o i p rfl
 | .Name x p=>.name x p rfl
 | .List es p=>.list es p rfl
 | .Tuple es k p=>.tuple es k p rfl
 | .Slice a b c p=>.slice a b c p rfl
 | _=>.other
inductive ViewS (s:Stmt) where
 | ret (v:Option Expr) (p:Pos) (h:s=.Return v p)
 | assign (ts:List Expr) (e:Expr) (p:Pos) (h:s=.Assign ts e p)
 | aug (t:Expr) (op:Operator) (e:Expr) (p:Pos) (h:s=.AugAssign t op e p)
 | «for» (t it:Expr) (b o:List Stmt) (p:Pos) (h:s=.For t it b o p)
 | whl (t:Expr) (b o:List Stmt) (p:Pos) (h:s=.While t b o p)
 | ite (t:Expr) (b o:List Stmt) (p:Pos) (h:s=.If t b o p)
 | rse (e c:Option Expr) (p:Pos) (h:s=.Raise e c p)
 | «try» (b:List Stmt) (hs:List ExceptHandler) (o f:List Stmt) (p:Pos) (h:s=.Try b hs o f p)
 | expr (e:Expr) (p:Pos) (h:s=.Expr e p)
 | pass (p:Pos) (h:s=.Pass p)
 | brk (p:Pos) (h:s=.Break p)
 | other
noncomputable def viewS (s:Stmt):ViewS s:=match s with
 | .Return v p=>.ret v p rfl
 | .Assign ts e p=>.assign ts e p rfl
 | .AugAssign t op e p=>.aug t op e p rfl
 | .For t it b o p=>.for t it b o p rfl
 | .While t b o p=>.whl t b o p rfl
 | .If t b o p=>.ite t b o p rfl
 | .Raise e c p=>.rse e c p rfl
 | .Try b hs o f p=>.try b hs o f p rfl
 | .Expr e p=>.expr e p rfl
 | .Pass p=>.pass p rfl
 | .Break p=>.brk p rfl
 | _=>.other
noncomputable def gS (o:Expr):Bool:=match view o with
 | .call f as _ _ _=>plainCall as f
 | _=>true
noncomputable def pctTexts:List Str:=["no command is of kind %d", "no reply has code %d"]
noncomputable def k9:Str:= "BadCommand"
structure Def where
 vars:List Str
 params:Nat
 extra:Nat
 dflt:List Int
 body:M
noncomputable def iE (a:Arguments) (sc:Scope):List Str:=
 let ps:=a.args.map (·.arg)
 ps++(sc.names.filterMap fun y=>match y.2,idxOf y.1 ps with
  | .local,none=>some y.1
  | .cell,none=>some y.1
  | _,_=>none)
noncomputable def dfltOf:List Expr→Option (List Int)
 | []=>some []
 | e::r=>match view e with
  | .const (.int i) _ _ _=>(dfltOf r).map (i::·)
  | _=>none
end Internal
end
section
namespace Internal
open PySem
noncomputable def b_write_groups:M:=
 (.cons (.sIf (.or (.cmp .lt (.loc 0) (.cI 0)) (.cmp .gt (.loc 0) (.loc 1))) (.cons (.sX .BadOption (.cons (.fstr (.cons (.loc 0) (.cons .cS (.cons (.loc 1) .nil)))) .nil)) .nil) .nil)
 (.cons (.sA 2 (.blt .bytearray .nil))
 (.cons (.sW (.cmp .ge (.loc 0) (.cI 128)) (.cons (.sE (.meth (.loc 2) .append (.cons (.bin .bor (.bin .band (.loc 0) (.cI 127)) (.cI 128)) .nil))) (.cons (.sG 0 .shr (.cI 7)) .nil)))
 (.cons (.sE (.meth (.loc 2) .append (.cons (.loc 0) .nil)))
 (.cons (.sR (.blt .bytes (.cons (.loc 2) .nil))) .nil)))))
noncomputable def b_read_groups:M:=
 (.cons (.sIf (.cmp .lt (.loc 1) (.cI 0)) (.cons (.sX .ShortOctets (.cons (.fstr (.cons .cS (.cons (.loc 1) .nil))) .nil)) .nil) .nil)
 (.cons (.sA 4 (.cI 0))
 (.cons (.sA 5 (.cI 0))
 (.cons (.sF [6] true (.blt .range (.cons (.loc 2) .nil)) (.cons (.sIf (.cmp .ge (.loc 1) (.blt .len (.cons (.loc 0) .nil))) (.cons (.sX .ShortOctets (.cons .cS .nil)) .nil) .nil) (.cons (.sA 7 (.idx (.loc 0) (.loc 1))) (.cons (.sG 1 .add (.cI 1)) (.cons (.sG 4 .bor (.bin .shl (.bin .band (.loc 7) (.cI 127)) (.loc 5))) (.cons (.sIf (.cmp .lt (.loc 7) (.cI 128)) (.cons (.sIf (.cmp .gt (.loc 4) (.loc 3)) (.cons (.sX .Corrupt (.cons (.fstr (.cons .cS (.cons (.loc 4) (.cons .cS (.cons (.loc 3) .nil))))) .nil)) .nil) .nil) (.cons (.sR (.tup (.cons (.loc 4) (.cons (.loc 1) .nil)))) .nil)) .nil) (.cons (.sG 5 .add (.cI 7)) .nil)))))))
 (.cons (.sX .Corrupt (.cons (.fstr (.cons .cS (.cons (.loc 2) (.cons .cS .nil)))) .nil)) .nil)))))
noncomputable def b_put_varint:M:=
 (.cons (.sIf (.and (.cmp .ge (.loc 0) (.cI 0)) (.cmp .lt (.loc 0) (.cI 128))) (.cons (.sR (.blt .bytes (.cons (.lst (.cons (.loc 0) .nil)) .nil))) .nil) .nil)
 (.cons (.sR (.call .write_groups (.cons (.loc 0) (.cons (.glob 1) .nil)))) .nil))
noncomputable def b_read_varint:M:=
 (.cons (.sIf (.and (.cmp .ge (.loc 1) (.cI 0)) (.and (.cmp .lt (.loc 1) (.blt .len (.cons (.loc 0) .nil))) (.cmp .lt (.idx (.loc 0) (.loc 1)) (.cI 128)))) (.cons (.sR (.tup (.cons (.idx (.loc 0) (.loc 1)) (.cons (.bin .add (.loc 1) (.cI 1)) .nil)))) .nil) .nil)
 (.cons (.sR (.call .read_groups (.cons (.loc 0) (.cons (.loc 1) (.cons (.cI 10) (.cons (.glob 1) .nil)))))) .nil))
noncomputable def b_put_varint32:M:=
 (.cons (.sIf (.and (.cmp .ge (.loc 0) (.cI 0)) (.cmp .lt (.loc 0) (.cI 128))) (.cons (.sR (.blt .bytes (.cons (.lst (.cons (.loc 0) .nil)) .nil))) .nil) .nil)
 (.cons (.sR (.call .write_groups (.cons (.loc 0) (.cons (.glob 0) .nil)))) .nil))
noncomputable def b_read_varint32:M:=
 (.cons (.sIf (.and (.cmp .ge (.loc 1) (.cI 0)) (.and (.cmp .lt (.loc 1) (.blt .len (.cons (.loc 0) .nil))) (.cmp .lt (.idx (.loc 0) (.loc 1)) (.cI 128)))) (.cons (.sR (.tup (.cons (.idx (.loc 0) (.loc 1)) (.cons (.bin .add (.loc 1) (.cI 1)) .nil)))) .nil) .nil)
 (.cons (.sR (.call .read_groups (.cons (.loc 0) (.cons (.loc 1) (.cons (.cI 5) (.cons (.glob 0) .nil)))))) .nil))
noncomputable def b_varint_length:M:=
 (.cons (.sIf (.or (.cmp .lt (.loc 0) (.cI 0)) (.cmp .gt (.loc 0) (.glob 1))) (.cons (.sX .BadOption (.cons (.fstr (.cons (.loc 0) (.cons .cS (.cons (.glob 1) .nil)))) .nil)) .nil) .nil)
 (.cons (.sA 1 (.cI 1))
 (.cons (.sW (.cmp .ge (.loc 0) (.cI 128)) (.cons (.sG 0 .shr (.cI 7)) (.cons (.sG 1 .add (.cI 1)) .nil)))
 (.cons (.sR (.loc 1)) .nil))))
noncomputable def b_put_fixed32:M:=
 (.cons (.sIf (.or (.cmp .lt (.loc 0) (.cI 0)) (.cmp .gt (.loc 0) (.glob 0))) (.cons (.sX .BadOption (.cons (.fstr (.cons (.loc 0) (.cons .cS .nil))) .nil)) .nil) .nil)
 (.cons (.sR (.blt .bytes (.cons (.lst (.cons (.bin .band (.loc 0) (.cI 255)) (.cons (.bin .band (.bin .shr (.loc 0) (.cI 8)) (.cI 255)) (.cons (.bin .band (.bin .shr (.loc 0) (.cI 16)) (.cI 255)) (.cons (.bin .shr (.loc 0) (.cI 24)) .nil))))) .nil))) .nil))
noncomputable def b_put_fixed64:M:=
 (.cons (.sIf (.or (.cmp .lt (.loc 0) (.cI 0)) (.cmp .gt (.loc 0) (.glob 1))) (.cons (.sX .BadOption (.cons (.fstr (.cons (.loc 0) (.cons .cS .nil))) .nil)) .nil) .nil)
 (.cons (.sR (.bin .add (.call .put_fixed32 (.cons (.bin .band (.loc 0) (.glob 0)) .nil)) (.call .put_fixed32 (.cons (.bin .shr (.loc 0) (.cI 32)) .nil)))) .nil))
noncomputable def b_read_lengthed:M:=
 (.cons (.sT [2,1] (.call .read_varint32 (.cons (.loc 0) (.cons (.loc 1) .nil))))
 (.cons (.sIf (.cmp .gt (.bin .add (.loc 1) (.loc 2)) (.blt .len (.cons (.loc 0) .nil))) (.cons (.sX .ShortOctets (.cons (.fstr (.cons (.loc 2) (.cons .cS (.cons (.bin .sub (.blt .len (.cons (.loc 0) .nil)) (.loc 1)) (.cons .cS .nil))))) .nil)) .nil) .nil)
 (.cons (.sR (.tup (.cons (.blt .bytes (.cons (.slc (.loc 0) (.loc 1) (.bin .add (.loc 1) (.loc 2))) .nil)) (.cons (.bin .add (.loc 1) (.loc 2)) .nil)))) .nil)))
noncomputable def b_Cursor_init:M:=
 (.cons (.sIf (.or (.cmp .lt (.loc 2) (.cI 0)) (.cmp .gt (.loc 2) (.blt .len (.cons (.loc 1) .nil)))) (.cons (.sX .ShortOctets (.cons (.fstr (.cons .cS (.cons (.loc 2) (.cons .cS (.cons (.blt .len (.cons (.loc 1) .nil)) (.cons .cS .nil)))))) .nil)) .nil) .nil)
 (.cons (.sAt (.loc 0) .data (.loc 1))
 (.cons (.sAt (.loc 0) .place (.loc 2)) .nil)))
noncomputable def b_Cursor_left:M:=
 (.cons (.sR (.bin .sub (.blt .len (.cons (.attr (.loc 0) .data) .nil)) (.attr (.loc 0) .place))) .nil)
noncomputable def b_Cursor_varint:M:=
 (.cons (.sA 1 (.attr (.loc 0) .place))
 (.cons (.sIf (.and (.cmp .lt (.loc 1) (.blt .len (.cons (.attr (.loc 0) .data) .nil))) (.cmp .lt (.idx (.attr (.loc 0) .data) (.loc 1)) (.cI 128))) (.cons (.sAt (.loc 0) .place (.bin .add (.loc 1) (.cI 1))) (.cons (.sR (.idx (.attr (.loc 0) .data) (.loc 1))) .nil)) .nil)
 (.cons (.sT [2,1] (.call .read_varint (.cons (.attr (.loc 0) .data) (.cons (.loc 1) .nil))))
 (.cons (.sAt (.loc 0) .place (.loc 1))
 (.cons (.sR (.loc 2)) .nil)))))
noncomputable def b_Cursor_lengthed:M:=
 (.cons (.sT [1,2] (.call .read_lengthed (.cons (.attr (.loc 0) .data) (.cons (.attr (.loc 0) .place) .nil))))
 (.cons (.sAt (.loc 0) .place (.loc 2))
 (.cons (.sR (.loc 1)) .nil)))
noncomputable def b_Cursor_octet:M:=
 (.cons (.sIf (.cmp .ge (.attr (.loc 0) .place) (.blt .len (.cons (.attr (.loc 0) .data) .nil))) (.cons (.sX .ShortOctets (.cons .cS .nil)) .nil) .nil)
 (.cons (.sA 1 (.idx (.attr (.loc 0) .data) (.attr (.loc 0) .place)))
 (.cons (.sGA (.loc 0) .place .add (.cI 1))
 (.cons (.sR (.loc 1)) .nil))))
noncomputable def b_Cursor_flag:M:=
 (.cons (.sIf (.cmp .ge (.attr (.loc 0) .place) (.blt .len (.cons (.attr (.loc 0) .data) .nil))) (.cons (.sX .ShortOctets (.cons .cS .nil)) .nil) .nil)
 (.cons (.sA 1 (.idx (.attr (.loc 0) .data) (.attr (.loc 0) .place)))
 (.cons (.sIf (.cmp .gt (.loc 1) (.cI 1)) (.cons (.sX .Corrupt (.cons (.fstr (.cons .cS (.cons (.loc 1) .nil))) .nil)) .nil) .nil)
 (.cons (.sGA (.loc 0) .place .add (.cI 1))
 (.cons (.sR (.cmp .eq (.loc 1) (.cI 1))) .nil)))))
noncomputable def b_Cursor_done:M:=
 (.cons (.sIf (.cmp .lt (.attr (.loc 0) .place) (.blt .len (.cons (.attr (.loc 0) .data) .nil))) (.cons (.sX .Corrupt (.cons (.fstr (.cons (.meth (.loc 0) .left .nil) (.cons .cS .nil))) .nil)) .nil) .nil) .nil)
noncomputable def b_Sink_init:M:=
 (.cons (.sAt (.loc 0) .parts (.blt .bytearray .nil)) .nil)
noncomputable def b_Sink_varint:M:=
 (.cons (.sIf (.and (.cmp .ge (.loc 1) (.cI 0)) (.cmp .lt (.loc 1) (.cI 128))) (.cons (.sE (.meth (.attr (.loc 0) .parts) .append (.cons (.loc 1) .nil))) .nil) (.cons (.sE (.meth (.attr (.loc 0) .parts) .extend (.cons (.call .put_varint (.cons (.loc 1) .nil)) .nil))) .nil)) .nil)
noncomputable def b_Sink_lengthed:M:=
 (.cons (.sE (.meth (.attr (.loc 0) .parts) .extend (.cons (.call .put_varint32 (.cons (.blt .len (.cons (.loc 1) .nil)) .nil)) .nil)))
 (.cons (.sE (.meth (.attr (.loc 0) .parts) .extend (.cons (.loc 1) .nil))) .nil))
noncomputable def b_Sink_octet:M:=
 (.cons (.sIf (.or (.cmp .lt (.loc 1) (.cI 0)) (.cmp .gt (.loc 1) (.cI 255))) (.cons (.sX .BadOption (.cons (.fstr (.cons (.loc 1) (.cons .cS .nil))) .nil)) .nil) .nil)
 (.cons (.sE (.meth (.attr (.loc 0) .parts) .append (.cons (.loc 1) .nil))) .nil))
noncomputable def b_Sink_flag:M:=
 (.cons (.sIf (.loc 1) (.cons (.sE (.meth (.attr (.loc 0) .parts) .append (.cons (.cI 1) .nil))) .nil) (.cons (.sE (.meth (.attr (.loc 0) .parts) .append (.cons (.cI 0) .nil))) .nil)) .nil)
noncomputable def b_Sink_done:M:=
 (.cons (.sR (.blt .bytes (.cons (.attr (.loc 0) .parts) .nil))) .nil)
noncomputable def b_rising:M:=
 (.cons (.sA 1 (.lst .nil))
 (.cons (.sF [2] true (.blt .sorted (.cons (.loc 0) .nil)) (.cons (.sIf (.or (.not (.loc 1)) (.cmp .ne (.idx (.loc 1) (.neg (.cI 1))) (.loc 2))) (.cons (.sE (.meth (.loc 1) .append (.cons (.loc 2) .nil))) .nil) .nil) .nil))
 (.cons (.sR (.loc 1)) .nil)))
noncomputable def b_take_count:M:=
 (.cons (.sA 1 (.meth (.loc 0) .varint .nil))
 (.cons (.sIf (.cmp .gt (.loc 1) (.meth (.loc 0) .left .nil)) (.cons (.sX .ShortOctets (.cons (.fstr (.cons .cS (.cons (.loc 1) (.cons .cS (.cons (.meth (.loc 0) .left .nil) (.cons .cS .nil)))))) .nil)) .nil) .nil)
 (.cons (.sR (.loc 1)) .nil)))
noncomputable def b_Entry_init:M:=
 (.cons (.sAt (.loc 0) .term (.loc 1))
 (.cons (.sAt (.loc 0) .index (.loc 2))
 (.cons (.sAt (.loc 0) .kind (.loc 3))
 (.cons (.sAt (.loc 0) .data (.loc 4)) .nil))))
noncomputable def b_Entry_row:M:=
 (.cons (.sR (.tup (.cons (.attr (.loc 0) .term) (.cons (.attr (.loc 0) .index) (.cons (.attr (.loc 0) .kind) (.cons (.attr (.loc 0) .data) .nil)))))) .nil)
noncomputable def b_Entry_copy:M:=
 (.cons (.sR (.new .Entry (.cons (.attr (.loc 0) .term) (.cons (.attr (.loc 0) .index) (.cons (.attr (.loc 0) .kind) (.cons (.attr (.loc 0) .data) .nil)))))) .nil)
noncomputable def b_Entry_size:M:=
 (.cons (.sA 1 (.blt .len (.cons (.attr (.loc 0) .data) .nil)))
 (.cons (.sA 2 (.bin .add (.bin .add (.call .varint_length (.cons (.attr (.loc 0) .term) .nil)) (.call .varint_length (.cons (.attr (.loc 0) .index) .nil))) (.call .varint_length (.cons (.attr (.loc 0) .kind) .nil))))
 (.cons (.sR (.bin .add (.bin .add (.loc 2) (.call .varint_length (.cons (.loc 1) .nil))) (.loc 1))) .nil)))
noncomputable def b_encode_entry:M:=
 (.cons (.sA 1 (.new .Sink .nil))
 (.cons (.sE (.meth (.loc 1) .varint (.cons (.attr (.loc 0) .term) .nil)))
 (.cons (.sE (.meth (.loc 1) .varint (.cons (.attr (.loc 0) .index) .nil)))
 (.cons (.sE (.meth (.loc 1) .varint (.cons (.attr (.loc 0) .kind) .nil)))
 (.cons (.sE (.meth (.loc 1) .lengthed (.cons (.attr (.loc 0) .data) .nil)))
 (.cons (.sR (.meth (.loc 1) .done .nil)) .nil))))))
noncomputable def b_decode_entry:M:=
 (.cons (.sA 1 (.new .Cursor (.cons (.loc 0) .nil)))
 (.cons (.sA 2 (.meth (.loc 1) .varint .nil))
 (.cons (.sA 3 (.meth (.loc 1) .varint .nil))
 (.cons (.sA 4 (.meth (.loc 1) .varint .nil))
 (.cons (.sIf (.and (.cmp .ne (.loc 4) (.glob 3)) (.cmp .ne (.loc 4) (.glob 4))) (.cons (.sX .Corrupt (.cons (.fstr (.cons .cS (.cons (.loc 4) .nil))) .nil)) .nil) .nil)
 (.cons (.sA 5 (.meth (.loc 1) .lengthed .nil))
 (.cons (.sE (.meth (.loc 1) .done .nil))
 (.cons (.sR (.new .Entry (.cons (.loc 2) (.cons (.loc 3) (.cons (.loc 4) (.cons (.loc 5) .nil)))))) .nil))))))))
noncomputable def b_limit_size:M:=
 (.cons (.sA 2 (.cI 0))
 (.cons (.sA 3 (.lst .nil))
 (.cons (.sF [4] true (.loc 0) (.cons (.sG 2 .add (.meth (.loc 4) .size .nil)) (.cons (.sIf (.and (.loc 3) (.cmp .gt (.loc 2) (.loc 1))) (.cons .sBrk .nil) .nil) (.cons (.sE (.meth (.loc 3) .append (.cons (.loc 4) .nil))) .nil))))
 (.cons (.sR (.loc 3)) .nil))))
noncomputable def b_ConfState_init:M:=
 (.cons (.sAt (.loc 0) .voters (.call .rising (.cons (.loc 1) .nil)))
 (.cons (.sAt (.loc 0) .learners (.call .rising (.cons (.loc 2) .nil)))
 (.cons (.sAt (.loc 0) .outgoing (.call .rising (.cons (.loc 3) .nil)))
 (.cons (.sAt (.loc 0) .learners_next (.call .rising (.cons (.loc 4) .nil)))
 (.cons (.sAt (.loc 0) .auto_leave (.loc 5)) .nil)))))
noncomputable def b_ConfState_row:M:=
 (.cons (.sR (.tup (.cons (.blt .tuple (.cons (.attr (.loc 0) .voters) .nil)) (.cons (.blt .tuple (.cons (.attr (.loc 0) .learners) .nil)) (.cons (.blt .tuple (.cons (.attr (.loc 0) .outgoing) .nil)) (.cons (.blt .tuple (.cons (.attr (.loc 0) .learners_next) .nil)) (.cons (.attr (.loc 0) .auto_leave) .nil))))))) .nil)
noncomputable def b_ConfState_copy:M:=
 (.cons (.sR (.new .ConfState (.cons (.attr (.loc 0) .voters) (.cons (.attr (.loc 0) .learners) (.cons (.attr (.loc 0) .outgoing) (.cons (.attr (.loc 0) .learners_next) (.cons (.attr (.loc 0) .auto_leave) .nil))))))) .nil)
noncomputable def b_put_ids:M:=
 (.cons (.sE (.meth (.loc 0) .varint (.cons (.blt .len (.cons (.loc 1) .nil)) .nil)))
 (.cons (.sF [2] true (.loc 1) (.cons (.sE (.meth (.loc 0) .varint (.cons (.loc 2) .nil))) .nil)) .nil))
noncomputable def b_take_ids:M:=
 (.cons (.sA 1 (.lst .nil))
 (.cons (.sF [2] true (.blt .range (.cons (.call .take_count (.cons (.loc 0) .nil)) .nil)) (.cons (.sA 3 (.meth (.loc 0) .varint .nil)) (.cons (.sIf (.and (.loc 1) (.cmp .le (.loc 3) (.idx (.loc 1) (.neg (.cI 1))))) (.cons (.sX .Corrupt (.cons (.fstr (.cons .cS (.cons (.loc 3) (.cons .cS (.cons (.idx (.loc 1) (.neg (.cI 1))) .nil))))) .nil)) .nil) .nil) (.cons (.sE (.meth (.loc 1) .append (.cons (.loc 3) .nil))) .nil))))
 (.cons (.sR (.loc 1)) .nil)))
noncomputable def b_encode_conf:M:=
 (.cons (.sA 1 (.new .Sink .nil))
 (.cons (.sE (.call .put_ids (.cons (.loc 1) (.cons (.attr (.loc 0) .voters) .nil))))
 (.cons (.sE (.call .put_ids (.cons (.loc 1) (.cons (.attr (.loc 0) .learners) .nil))))
 (.cons (.sE (.call .put_ids (.cons (.loc 1) (.cons (.attr (.loc 0) .outgoing) .nil))))
 (.cons (.sE (.call .put_ids (.cons (.loc 1) (.cons (.attr (.loc 0) .learners_next) .nil))))
 (.cons (.sE (.meth (.loc 1) .flag (.cons (.attr (.loc 0) .auto_leave) .nil)))
 (.cons (.sR (.meth (.loc 1) .done .nil)) .nil)))))))
noncomputable def b_decode_conf:M:=
 (.cons (.sA 1 (.new .Cursor (.cons (.loc 0) .nil)))
 (.cons (.sA 2 (.call .take_ids (.cons (.loc 1) .nil)))
 (.cons (.sA 3 (.call .take_ids (.cons (.loc 1) .nil)))
 (.cons (.sA 4 (.call .take_ids (.cons (.loc 1) .nil)))
 (.cons (.sA 5 (.call .take_ids (.cons (.loc 1) .nil)))
 (.cons (.sA 6 (.meth (.loc 1) .flag .nil))
 (.cons (.sE (.meth (.loc 1) .done .nil))
 (.cons (.sR (.new .ConfState (.cons (.loc 2) (.cons (.loc 3) (.cons (.loc 4) (.cons (.loc 5) (.cons (.loc 6) .nil))))))) .nil))))))))
noncomputable def b_Snapshot_init:M:=
 (.cons (.sAt (.loc 0) .index (.loc 1))
 (.cons (.sAt (.loc 0) .term (.loc 2))
 (.cons (.sAt (.loc 0) .conf (.loc 3))
 (.cons (.sAt (.loc 0) .data (.loc 4)) .nil))))
noncomputable def b_Snapshot_row:M:=
 (.cons (.sR (.tup (.cons (.attr (.loc 0) .index) (.cons (.attr (.loc 0) .term) (.cons (.meth (.attr (.loc 0) .conf) .row .nil) (.cons (.attr (.loc 0) .data) .nil)))))) .nil)
noncomputable def b_Snapshot_copy:M:=
 (.cons (.sR (.new .Snapshot (.cons (.attr (.loc 0) .index) (.cons (.attr (.loc 0) .term) (.cons (.meth (.attr (.loc 0) .conf) .copy .nil) (.cons (.attr (.loc 0) .data) .nil)))))) .nil)
noncomputable def b_encode_snapshot:M:=
 (.cons (.sA 1 (.new .Sink .nil))
 (.cons (.sE (.meth (.loc 1) .varint (.cons (.attr (.loc 0) .index) .nil)))
 (.cons (.sE (.meth (.loc 1) .varint (.cons (.attr (.loc 0) .term) .nil)))
 (.cons (.sE (.meth (.loc 1) .lengthed (.cons (.call .encode_conf (.cons (.attr (.loc 0) .conf) .nil)) .nil)))
 (.cons (.sE (.meth (.loc 1) .lengthed (.cons (.attr (.loc 0) .data) .nil)))
 (.cons (.sR (.meth (.loc 1) .done .nil)) .nil))))))
noncomputable def b_decode_snapshot:M:=
 (.cons (.sA 1 (.new .Cursor (.cons (.loc 0) .nil)))
 (.cons (.sA 2 (.meth (.loc 1) .varint .nil))
 (.cons (.sA 3 (.meth (.loc 1) .varint .nil))
 (.cons (.sA 4 (.call .decode_conf (.cons (.meth (.loc 1) .lengthed .nil) .nil)))
 (.cons (.sA 5 (.meth (.loc 1) .lengthed .nil))
 (.cons (.sE (.meth (.loc 1) .done .nil))
 (.cons (.sR (.new .Snapshot (.cons (.loc 2) (.cons (.loc 3) (.cons (.loc 4) (.cons (.loc 5) .nil)))))) .nil)))))))
noncomputable def b_Message_init:M:=
 (.cons (.sAt (.loc 0) .kind (.loc 1))
 (.cons (.sAt (.loc 0) .to (.loc 2))
 (.cons (.sAt (.loc 0) .frm (.loc 3))
 (.cons (.sAt (.loc 0) .term (.loc 4))
 (.cons (.sAt (.loc 0) .log_term (.cI 0))
 (.cons (.sAt (.loc 0) .index (.cI 0))
 (.cons (.sAt (.loc 0) .entries (.lst .nil))
 (.cons (.sAt (.loc 0) .commit (.cI 0))
 (.cons (.sAt (.loc 0) .snapshot .cN)
 (.cons (.sAt (.loc 0) .reject (.cB false))
 (.cons (.sAt (.loc 0) .reject_hint (.cI 0))
 (.cons (.sAt (.loc 0) .context (.cY [])) .nil))))))))))))
noncomputable def b_Message_row:M:=
 (.cons (.sA 1 (.blt .tuple (.cons (.comp (.meth (.loc 0) .row .nil) 0 (.attr (.loc 0) .entries) .nil []) .nil)))
 (.cons (.sA 2 .cN)
 (.cons (.sIf (.cmp .isNot (.attr (.loc 0) .snapshot) .cN) (.cons (.sA 2 (.meth (.attr (.loc 0) .snapshot) .row .nil)) .nil) .nil)
 (.cons (.sR (.tup (.cons (.attr (.loc 0) .kind) (.cons (.attr (.loc 0) .to) (.cons (.attr (.loc 0) .frm) (.cons (.attr (.loc 0) .term) (.cons (.attr (.loc 0) .log_term) (.cons (.attr (.loc 0) .index) (.cons (.loc 1) (.cons (.attr (.loc 0) .commit) (.cons (.loc 2) (.cons (.attr (.loc 0) .reject) (.cons (.attr (.loc 0) .reject_hint) (.cons (.attr (.loc 0) .context) .nil)))))))))))))) .nil))))
noncomputable def b_Message_copy:M:=
 (.cons (.sA 1 (.new .Message (.cons (.attr (.loc 0) .kind) (.cons (.attr (.loc 0) .to) (.cons (.attr (.loc 0) .frm) (.cons (.attr (.loc 0) .term) .nil))))))
 (.cons (.sAt (.loc 1) .log_term (.attr (.loc 0) .log_term))
 (.cons (.sAt (.loc 1) .index (.attr (.loc 0) .index))
 (.cons (.sAt (.loc 1) .entries (.comp (.meth (.loc 0) .copy .nil) 0 (.attr (.loc 0) .entries) .nil []))
 (.cons (.sAt (.loc 1) .commit (.attr (.loc 0) .commit))
 (.cons (.sIf (.cmp .isNot (.attr (.loc 0) .snapshot) .cN) (.cons (.sAt (.loc 1) .snapshot (.meth (.attr (.loc 0) .snapshot) .copy .nil)) .nil) .nil)
 (.cons (.sAt (.loc 1) .reject (.attr (.loc 0) .reject))
 (.cons (.sAt (.loc 1) .reject_hint (.attr (.loc 0) .reject_hint))
 (.cons (.sAt (.loc 1) .context (.attr (.loc 0) .context))
 (.cons (.sR (.loc 1)) .nil))))))))))
noncomputable def b_encode_message:M:=
 (.cons (.sA 1 (.new .Sink .nil))
 (.cons (.sE (.meth (.loc 1) .varint (.cons (.attr (.loc 0) .kind) .nil)))
 (.cons (.sE (.meth (.loc 1) .varint (.cons (.attr (.loc 0) .to) .nil)))
 (.cons (.sE (.meth (.loc 1) .varint (.cons (.attr (.loc 0) .frm) .nil)))
 (.cons (.sE (.meth (.loc 1) .varint (.cons (.attr (.loc 0) .term) .nil)))
 (.cons (.sE (.meth (.loc 1) .varint (.cons (.attr (.loc 0) .log_term) .nil)))
 (.cons (.sE (.meth (.loc 1) .varint (.cons (.attr (.loc 0) .index) .nil)))
 (.cons (.sE (.meth (.loc 1) .varint (.cons (.attr (.loc 0) .commit) .nil)))
 (.cons (.sE (.meth (.loc 1) .varint (.cons (.attr (.loc 0) .reject_hint) .nil)))
 (.cons (.sE (.meth (.loc 1) .flag (.cons (.attr (.loc 0) .reject) .nil)))
 (.cons (.sE (.meth (.loc 1) .varint (.cons (.blt .len (.cons (.attr (.loc 0) .entries) .nil)) .nil)))
 (.cons (.sF [2] true (.attr (.loc 0) .entries) (.cons (.sE (.meth (.loc 1) .lengthed (.cons (.call .encode_entry (.cons (.loc 2) .nil)) .nil))) .nil))
 (.cons (.sE (.meth (.loc 1) .flag (.cons (.cmp .isNot (.attr (.loc 0) .snapshot) .cN) .nil)))
 (.cons (.sIf (.cmp .isNot (.attr (.loc 0) .snapshot) .cN) (.cons (.sE (.meth (.loc 1) .lengthed (.cons (.call .encode_snapshot (.cons (.attr (.loc 0) .snapshot) .nil)) .nil))) .nil) .nil)
 (.cons (.sE (.meth (.loc 1) .lengthed (.cons (.attr (.loc 0) .context) .nil)))
 (.cons (.sR (.meth (.loc 1) .done .nil)) .nil))))))))))))))))
noncomputable def iY:M:=
 (.cons (.sA 1 (.new .Cursor (.cons (.loc 0) .nil)))
 (.cons (.sA 2 (.meth (.loc 1) .varint .nil))
 (.cons (.sIf (.cmp .gt (.loc 2) (.glob 2)) (.cons (.sX .Corrupt (.cons (.fstr (.cons .cS (.cons (.loc 2) .nil))) .nil)) .nil) .nil)
 (.cons (.sA 3 (.meth (.loc 1) .varint .nil))
 (.cons (.sA 4 (.meth (.loc 1) .varint .nil))
 (.cons (.sA 5 (.new .Message (.cons (.loc 2) (.cons (.loc 3) (.cons (.loc 4) (.cons (.meth (.loc 1) .varint .nil) .nil))))))
 (.cons (.sAt (.loc 5) .log_term (.meth (.loc 1) .varint .nil))
 (.cons (.sAt (.loc 5) .index (.meth (.loc 1) .varint .nil))
 (.cons (.sAt (.loc 5) .commit (.meth (.loc 1) .varint .nil))
 (.cons (.sAt (.loc 5) .reject_hint (.meth (.loc 1) .varint .nil))
 (.cons (.sAt (.loc 5) .reject (.meth (.loc 1) .flag .nil))
 (.cons (.sF [6] true (.blt .range (.cons (.call .take_count (.cons (.loc 1) .nil)) .nil)) (.cons (.sE (.meth (.attr (.loc 5) .entries) .append (.cons (.call .decode_entry (.cons (.meth (.loc 1) .lengthed .nil) .nil)) .nil))) .nil))
 (.cons (.sIf (.meth (.loc 1) .flag .nil) (.cons (.sAt (.loc 5) .snapshot (.call .decode_snapshot (.cons (.meth (.loc 1) .lengthed .nil) .nil))) .nil) .nil)
 (.cons (.sAt (.loc 5) .context (.meth (.loc 1) .lengthed .nil))
 (.cons (.sE (.meth (.loc 1) .done .nil))
 (.cons (.sR (.loc 5)) .nil))))))))))))))))
noncomputable def b_kind_of_message:M:=
 (.cons (.sR (.idx (.call .read_varint (.cons (.loc 0) (.cons (.cI 0) .nil))) (.cI 0))) .nil)
noncomputable def b_ConfChange_init:M:=
 (.cons (.sAt (.loc 0) .transition (.loc 1))
 (.cons (.sAt (.loc 0) .changes (.comp (.tup (.cons (.loc 0) (.cons (.loc 1) .nil))) 2 (.loc 2) .nil []))
 (.cons (.sAt (.loc 0) .context (.loc 3)) .nil)))
noncomputable def b_ConfChange_row:M:=
 (.cons (.sR (.tup (.cons (.attr (.loc 0) .transition) (.cons (.blt .tuple (.cons (.attr (.loc 0) .changes) .nil)) (.cons (.attr (.loc 0) .context) .nil))))) .nil)
noncomputable def b_encode_change:M:=
 (.cons (.sA 1 (.new .Sink .nil))
 (.cons (.sE (.meth (.loc 1) .varint (.cons (.attr (.loc 0) .transition) .nil)))
 (.cons (.sE (.meth (.loc 1) .varint (.cons (.blt .len (.cons (.attr (.loc 0) .changes) .nil)) .nil)))
 (.cons (.sF [2,3] false (.attr (.loc 0) .changes) (.cons (.sE (.meth (.loc 1) .varint (.cons (.loc 2) .nil))) (.cons (.sE (.meth (.loc 1) .varint (.cons (.loc 3) .nil))) .nil)))
 (.cons (.sE (.meth (.loc 1) .lengthed (.cons (.attr (.loc 0) .context) .nil)))
 (.cons (.sR (.meth (.loc 1) .done .nil)) .nil))))))
noncomputable def b_decode_change:M:=
 (.cons (.sIf (.not (.loc 0)) (.cons (.sR (.new .ConfChange (.cons (.glob 6) (.cons (.lst .nil) (.cons (.cY []) .nil))))) .nil) .nil)
 (.cons (.sA 1 (.new .Cursor (.cons (.loc 0) .nil)))
 (.cons (.sA 2 (.meth (.loc 1) .varint .nil))
 (.cons (.sIf (.cmp .gt (.loc 2) (.glob 7)) (.cons (.sX .Corrupt (.cons (.fstr (.cons .cS (.cons (.loc 2) .nil))) .nil)) .nil) .nil)
 (.cons (.sA 3 (.lst .nil))
 (.cons (.sF [4] true (.blt .range (.cons (.call .take_count (.cons (.loc 1) .nil)) .nil)) (.cons (.sA 5 (.meth (.loc 1) .varint .nil)) (.cons (.sIf (.cmp .gt (.loc 5) (.glob 5)) (.cons (.sX .Corrupt (.cons (.fstr (.cons .cS (.cons (.loc 5) .nil))) .nil)) .nil) .nil) (.cons (.sE (.meth (.loc 3) .append (.cons (.tup (.cons (.loc 5) (.cons (.meth (.loc 1) .varint .nil) .nil))) .nil))) .nil))))
 (.cons (.sA 6 (.meth (.loc 1) .lengthed .nil))
 (.cons (.sE (.meth (.loc 1) .done .nil))
 (.cons (.sR (.new .ConfChange (.cons (.loc 2) (.cons (.loc 3) (.cons (.loc 6) .nil))))) .nil)))))))))
noncomputable def b_Command_init:M:=
 (.cons (.sAt (.loc 0) .kind (.loc 1))
 (.cons (.sAt (.loc 0) .client (.loc 2))
 (.cons (.sAt (.loc 0) .number (.loc 3))
 (.cons (.sAt (.loc 0) .key (.loc 4))
 (.cons (.sAt (.loc 0) .value (.loc 5))
 (.cons (.sAt (.loc 0) .expect (.loc 6)) .nil))))))
noncomputable def b_Command_encode:M:=
 (.cons (.sIf (.or (.cmp .lt (.attr (.loc 0) .kind) (.glob 8)) (.cmp .gt (.attr (.loc 0) .kind) (.glob 9))) (.cons (.sX .BadCommand (.cons (.fstr (.cons (.attr (.loc 0) .kind) .nil)) .nil)) .nil) .nil)
 (.cons (.sA 1 (.new .Sink .nil))
 (.cons (.sTry (.cons (.sE (.meth (.loc 1) .varint (.cons (.attr (.loc 0) .kind) .nil))) (.cons (.sE (.meth (.loc 1) .varint (.cons (.attr (.loc 0) .client) .nil))) (.cons (.sE (.meth (.loc 1) .varint (.cons (.attr (.loc 0) .number) .nil))) (.cons (.sE (.meth (.loc 1) .lengthed (.cons (.attr (.loc 0) .key) .nil))) (.cons (.sE (.meth (.loc 1) .lengthed (.cons (.attr (.loc 0) .value) .nil))) (.cons (.sE (.call .put_maybe (.cons (.loc 1) (.cons (.attr (.loc 0) .expect) .nil)))) .nil)))))) .BadOption (.cons (.sX .BadCommand (.cons .cS .nil)) .nil))
 (.cons (.sR (.meth (.loc 1) .done .nil)) .nil))))
noncomputable def b_put_maybe:M:=
 (.cons (.sE (.meth (.loc 0) .flag (.cons (.cmp .isNot (.loc 1) .cN) .nil)))
 (.cons (.sIf (.cmp .isNot (.loc 1) .cN) (.cons (.sE (.meth (.loc 0) .lengthed (.cons (.loc 1) .nil))) .nil) .nil) .nil))
noncomputable def b_take_maybe:M:=
 (.cons (.sIf (.meth (.loc 0) .flag .nil) (.cons (.sR (.meth (.loc 0) .lengthed .nil)) .nil) .nil)
 (.cons (.sR .cN) .nil))
noncomputable def b_decode_command:M:=
 (.cons (.sTry (.cons (.sA 1 (.new .Cursor (.cons (.loc 0) .nil))) (.cons (.sA 2 (.meth (.loc 1) .varint .nil)) (.cons (.sA 3 (.meth (.loc 1) .varint .nil)) (.cons (.sA 4 (.meth (.loc 1) .varint .nil)) (.cons (.sA 5 (.meth (.loc 1) .lengthed .nil)) (.cons (.sA 6 (.meth (.loc 1) .lengthed .nil)) (.cons (.sA 7 (.call .take_maybe (.cons (.loc 1) .nil))) (.cons (.sE (.meth (.loc 1) .done .nil)) .nil)))))))) .Corrupt (.cons (.sX .BadCommand (.cons .cS .nil)) .nil))
 (.cons (.sIf (.cmp .gt (.loc 2) (.glob 9)) (.cons (.sX .BadCommand (.cons (.fstr (.cons (.loc 2) .nil)) .nil)) .nil) .nil)
 (.cons (.sR (.new .Command (.cons (.loc 2) (.cons (.loc 3) (.cons (.loc 4) (.cons (.loc 5) (.cons (.loc 6) (.cons (.loc 7) .nil)))))))) .nil)))
noncomputable def b_make_reply:M:=
 (.cons (.sA 2 (.new .Sink .nil))
 (.cons (.sE (.meth (.loc 2) .octet (.cons (.loc 0) .nil)))
 (.cons (.sE (.call .put_maybe (.cons (.loc 2) (.cons (.loc 1) .nil))))
 (.cons (.sR (.meth (.loc 2) .done .nil)) .nil))))
noncomputable def b_read_reply:M:=
 (.cons (.sA 1 (.new .Cursor (.cons (.loc 0) .nil)))
 (.cons (.sA 2 (.meth (.loc 1) .octet .nil))
 (.cons (.sIf (.cmp .gt (.loc 2) (.glob 10)) (.cons (.sX .Corrupt (.cons (.fstr (.cons (.loc 2) .nil)) .nil)) .nil) .nil)
 (.cons (.sA 3 (.call .take_maybe (.cons (.loc 1) .nil)))
 (.cons (.sE (.meth (.loc 1) .done .nil))
 (.cons (.sR (.tup (.cons (.loc 2) (.cons (.loc 3) .nil)))) .nil))))))
noncomputable def b_session_key:M:=
 (.cons (.sA 1 (.call .put_fixed64 (.cons (.loc 0) .nil)))
 (.cons (.sR (.bin .add (.glob 11) (.blt .bytes (.cons (.lst (.cons (.idx (.loc 1) (.cI 7)) (.cons (.idx (.loc 1) (.cI 6)) (.cons (.idx (.loc 1) (.cI 5)) (.cons (.idx (.loc 1) (.cI 4)) (.cons (.idx (.loc 1) (.cI 3)) (.cons (.idx (.loc 1) (.cI 2)) (.cons (.idx (.loc 1) (.cI 1)) (.cons (.idx (.loc 1) (.cI 0)) .nil))))))))) .nil)))) .nil))
noncomputable def b_client_of:M:=
 (.cons (.sA 1 (.cI 0))
 (.cons (.sF [2] true (.slc (.loc 0) (.blt .len (.cons (.glob 11) .nil)) .nil) (.cons (.sA 1 (.bin .bor (.bin .shl (.loc 1) (.cI 8)) (.loc 2))) .nil))
 (.cons (.sR (.loc 1)) .nil)))
noncomputable def b_encode_session:M:=
 (.cons (.sA 3 (.new .Sink .nil))
 (.cons (.sE (.meth (.loc 3) .varint (.cons (.loc 0) .nil)))
 (.cons (.sE (.meth (.loc 3) .flag (.cons (.loc 1) .nil)))
 (.cons (.sE (.meth (.loc 3) .lengthed (.cons (.loc 2) .nil)))
 (.cons (.sR (.meth (.loc 3) .done .nil)) .nil)))))
noncomputable def b_decode_session:M:=
 (.cons (.sA 1 (.new .Cursor (.cons (.loc 0) .nil)))
 (.cons (.sA 2 (.meth (.loc 1) .varint .nil))
 (.cons (.sA 3 (.meth (.loc 1) .flag .nil))
 (.cons (.sA 4 (.meth (.loc 1) .lengthed .nil))
 (.cons (.sE (.meth (.loc 1) .done .nil))
 (.cons (.sR (.tup (.cons (.loc 2) (.cons (.loc 3) (.cons (.loc 4) .nil))))) .nil))))))
noncomputable def b_law_take:M:=
 (.cons (.sA 3 (.idx (.loc 1) (.cI 0)))
 (.cons (.sIx (.loc 1) (.cI 0) (.bin .add (.loc 3) (.cI 1)))
 (.cons (.sR (.bin .mod (.bin .add (.idx (.loc 0) (.bin .mod (.loc 3) (.blt .len (.cons (.loc 0) .nil)))) (.bin .mul (.bin .fdiv (.loc 3) (.blt .len (.cons (.loc 0) .nil))) (.cI 7))) (.loc 2))) .nil)))
noncomputable def b_law_field:M:=
 (.cons (.sA 2 (.call .law_take (.cons (.loc 0) (.cons (.loc 1) (.cons (.cI 4096) .nil)))))
 (.cons (.sA 3 (.tup (.cons (.cI 0) (.cons (.cI 1) (.cons (.cI 127) (.cons (.cI 128) (.cons (.cI 16383) (.cons (.cI 16384) (.cons (.cI 4294967295) (.cons (.cI 9223372036854775808) (.cons (.cI 18446744073709551615) .nil)))))))))))
 (.cons (.sIf (.cmp .lt (.bin .mod (.loc 2) (.cI 16)) (.cI 9)) (.cons (.sR (.idx (.loc 3) (.bin .mod (.loc 2) (.cI 16)))) .nil) .nil)
 (.cons (.sR (.bin .fdiv (.loc 2) (.cI 16))) .nil))))
noncomputable def b_law_octs:M:=
 (.cons (.sA 3 (.call .law_take (.cons (.loc 0) (.cons (.loc 1) (.cons (.cI 16777216) .nil)))))
 (.cons (.sR (.blt .bytes (.cons (.comp (.bin .mod (.bin .add (.bin .fdiv (.loc 1) (.cI 31)) (.bin .mul (.loc 0) (.bin .add (.cI 1) (.bin .mod (.bin .fdiv (.loc 1) (.cI 4099)) (.cI 9))))) (.cI 256)) 0 (.blt .range (.cons (.bin .mod (.loc 3) (.bin .add (.loc 2) (.cI 1))) .nil)) .nil [3]) .nil))) .nil))
noncomputable def b_law_maybe:M:=
 (.cons (.sIf (.cmp .eq (.call .law_take (.cons (.loc 0) (.cons (.loc 1) (.cons (.cI 2) .nil)))) (.cI 0)) (.cons (.sR .cN) .nil) .nil)
 (.cons (.sR (.call .law_octs (.cons (.loc 0) (.cons (.loc 1) (.cons (.loc 2) .nil))))) .nil))
noncomputable def b_law_var:M:=
 (.cons (.sA 1 (.cI 1))
 (.cons (.sA 2 (.bin .fdiv (.loc 0) (.cI 128)))
 (.cons (.sW (.cmp .gt (.loc 2) (.cI 0)) (.cons (.sA 2 (.bin .fdiv (.loc 2) (.cI 128))) (.cons (.sA 1 (.bin .add (.loc 1) (.cI 1))) .nil)))
 (.cons (.sR (.blt .bytes (.cons (.comp (.bin .add (.bin .mod (.bin .fdiv (.loc 2) (.bin .pow (.cI 128) (.loc 0))) (.cI 128)) (.ife (.cmp .lt (.bin .add (.loc 0) (.cI 1)) (.loc 1)) (.cI 128) (.cI 0))) 0 (.blt .range (.cons (.loc 1) .nil)) .nil [1,0]) .nil))) .nil))))
noncomputable def b_law_len:M:=
 (.cons (.sR (.bin .add (.call .law_var (.cons (.blt .len (.cons (.loc 0) .nil)) .nil)) (.loc 0))) .nil)
noncomputable def b_law_opt:M:=
 (.cons (.sIf (.cmp .is (.loc 0) .cN) (.cons (.sR (.blt .bytes (.cons (.lst (.cons (.cI 0) .nil)) .nil))) .nil) .nil)
 (.cons (.sR (.bin .add (.blt .bytes (.cons (.lst (.cons (.cI 1) .nil)) .nil)) (.call .law_len (.cons (.loc 0) .nil)))) .nil))
noncomputable def b_law_cuts:M:=
 (.cons (.sR (.lst (.cons (.bin .mod (.loc 1) (.loc 0)) (.cons (.bin .sub (.loc 0) (.cI 1)) .nil)))) .nil)
noncomputable def b_law_conf_row:M:=
 (.cons (.sR (.tup (.cons (.blt .tuple (.cons (.attr (.loc 0) .voters) .nil)) (.cons (.blt .tuple (.cons (.attr (.loc 0) .learners) .nil)) (.cons (.blt .tuple (.cons (.attr (.loc 0) .outgoing) .nil)) (.cons (.blt .tuple (.cons (.attr (.loc 0) .learners_next) .nil)) (.cons (.attr (.loc 0) .auto_leave) .nil))))))) .nil)
noncomputable def b_law_entry_row:M:=
 (.cons (.sR (.tup (.cons (.attr (.loc 0) .term) (.cons (.attr (.loc 0) .index) (.cons (.attr (.loc 0) .kind) (.cons (.attr (.loc 0) .data) .nil)))))) .nil)
noncomputable def b_law_snap_row:M:=
 (.cons (.sR (.tup (.cons (.attr (.loc 0) .index) (.cons (.attr (.loc 0) .term) (.cons (.call .law_conf_row (.cons (.attr (.loc 0) .conf) .nil)) (.cons (.attr (.loc 0) .data) .nil)))))) .nil)
noncomputable def b_law_message_row:M:=
 (.cons (.sA 1 .cN)
 (.cons (.sIf (.cmp .isNot (.attr (.loc 0) .snapshot) .cN) (.cons (.sA 1 (.call .law_snap_row (.cons (.attr (.loc 0) .snapshot) .nil))) .nil) .nil)
 (.cons (.sA 2 (.tup (.cons (.attr (.loc 0) .kind) (.cons (.attr (.loc 0) .to) (.cons (.attr (.loc 0) .frm) (.cons (.attr (.loc 0) .term) (.cons (.attr (.loc 0) .log_term) (.cons (.attr (.loc 0) .index) (.cons (.attr (.loc 0) .commit) (.cons (.attr (.loc 0) .reject_hint) .nil))))))))))
 (.cons (.sR (.tup (.cons (.loc 2) (.cons (.attr (.loc 0) .reject) (.cons (.blt .tuple (.cons (.comp (.call .law_entry_row (.cons (.loc 0) .nil)) 0 (.attr (.loc 0) .entries) .nil []) .nil)) (.cons (.loc 1) (.cons (.attr (.loc 0) .context) .nil))))))) .nil))))
noncomputable def b_law_command_row:M:=
 (.cons (.sR (.tup (.cons (.attr (.loc 0) .kind) (.cons (.attr (.loc 0) .client) (.cons (.attr (.loc 0) .number) (.cons (.attr (.loc 0) .key) (.cons (.attr (.loc 0) .value) (.cons (.attr (.loc 0) .expect) .nil)))))))) .nil)
noncomputable def b_law_read:M:=
 (.cons (.sTry (.cons (.sIf (.cmp .eq (.loc 0) (.cI 2)) (.cons (.sR (.call .law_entry_row (.cons (.call .decode_entry (.cons (.loc 1) .nil)) .nil))) .nil) .nil) (.cons (.sIf (.cmp .eq (.loc 0) (.cI 3)) (.cons (.sR (.call .law_conf_row (.cons (.call .decode_conf (.cons (.loc 1) .nil)) .nil))) .nil) .nil) (.cons (.sIf (.cmp .eq (.loc 0) (.cI 4)) (.cons (.sA 2 (.call .decode_change (.cons (.loc 1) .nil))) (.cons (.sR (.tup (.cons (.attr (.loc 2) .transition) (.cons (.blt .tuple (.cons (.attr (.loc 2) .changes) .nil)) (.cons (.attr (.loc 2) .context) .nil))))) .nil)) .nil) (.cons (.sIf (.cmp .eq (.loc 0) (.cI 5)) (.cons (.sR (.call .law_snap_row (.cons (.call .decode_snapshot (.cons (.loc 1) .nil)) .nil))) .nil) .nil) (.cons (.sIf (.cmp .eq (.loc 0) (.cI 6)) (.cons (.sR (.call .law_message_row (.cons (.call .decode_message (.cons (.loc 1) .nil)) .nil))) .nil) .nil) (.cons (.sIf (.cmp .eq (.loc 0) (.cI 7)) (.cons (.sR (.call .read_reply (.cons (.loc 1) .nil))) .nil) .nil) (.cons (.sR (.call .decode_session (.cons (.loc 1) .nil))) .nil))))))) .Corrupt (.cons (.sR .cN) .nil)) .nil)
noncomputable def b_law_read_command:M:=
 (.cons (.sTry (.cons (.sR (.call .law_command_row (.cons (.call .decode_command (.cons (.loc 0) .nil)) .nil))) .nil) .BadCommand (.cons (.sR .cN) .nil)) .nil)
noncomputable def b_law_whole:M:=
 (.cons (.sIf (.or (.cmp .ne (.loc 1) (.loc 2)) (.cmp .ne (.call .law_read (.cons (.loc 0) (.cons (.loc 1) .nil))) (.loc 3))) (.cons (.sR (.cB false)) .nil) .nil)
 (.cons (.sF [5] true (.call .law_cuts (.cons (.blt .len (.cons (.loc 1) .nil)) (.cons (.loc 4) .nil))) (.cons (.sIf (.and (.cmp .isNot (.call .law_read (.cons (.loc 0) (.cons (.slc (.loc 1) .nil (.loc 5)) .nil))) .cN) (.not (.and (.cmp .eq (.loc 0) (.cI 4)) (.cmp .eq (.loc 5) (.cI 0))))) (.cons (.sR (.cB false)) .nil) .nil) .nil))
 (.cons (.sR (.cmp .is (.call .law_read (.cons (.loc 0) (.cons (.bin .add (.loc 1) (.blt .bytes (.cons (.lst (.cons (.bin .mod (.loc 4) (.cI 256)) .nil)) .nil))) .nil))) .cN)) .nil)))
noncomputable def b_law_entry_octets:M:=
 (.cons (.sR (.bin .add (.bin .add (.bin .add (.call .law_var (.cons (.idx (.loc 0) (.cI 0)) .nil)) (.call .law_var (.cons (.idx (.loc 0) (.cI 1)) .nil))) (.call .law_var (.cons (.idx (.loc 0) (.cI 2)) .nil))) (.call .law_len (.cons (.idx (.loc 0) (.cI 3)) .nil)))) .nil)
noncomputable def b_law_conf_octets:M:=
 (.cons (.sA 1 (.cY []))
 (.cons (.sF [2] true (.slc (.loc 0) .nil (.cI 4)) (.cons (.sA 1 (.bin .add (.loc 1) (.call .law_var (.cons (.blt .len (.cons (.loc 2) .nil)) .nil)))) (.cons (.sF [3] true (.loc 2) (.cons (.sA 1 (.bin .add (.loc 1) (.call .law_var (.cons (.loc 3) .nil)))) .nil)) .nil)))
 (.cons (.sR (.bin .add (.loc 1) (.blt .bytes (.cons (.lst (.cons (.bin .add (.idx (.loc 0) (.cI 4)) (.cI 0)) .nil)) .nil)))) .nil)))
noncomputable def b_law_snap_octets:M:=
 (.cons (.sR (.bin .add (.bin .add (.bin .add (.call .law_var (.cons (.idx (.loc 0) (.cI 0)) .nil)) (.call .law_var (.cons (.idx (.loc 0) (.cI 1)) .nil))) (.call .law_len (.cons (.call .law_conf_octets (.cons (.idx (.loc 0) (.cI 2)) .nil)) .nil))) (.call .law_len (.cons (.idx (.loc 0) (.cI 3)) .nil)))) .nil)
noncomputable def b_law_change_octets:M:=
 (.cons (.sA 1 (.bin .add (.call .law_var (.cons (.idx (.loc 0) (.cI 0)) .nil)) (.call .law_var (.cons (.blt .len (.cons (.idx (.loc 0) (.cI 1)) .nil)) .nil))))
 (.cons (.sF [2,3] false (.idx (.loc 0) (.cI 1)) (.cons (.sA 1 (.bin .add (.bin .add (.loc 1) (.call .law_var (.cons (.loc 2) .nil))) (.call .law_var (.cons (.loc 3) .nil)))) .nil))
 (.cons (.sR (.bin .add (.loc 1) (.call .law_len (.cons (.idx (.loc 0) (.cI 2)) .nil)))) .nil)))
noncomputable def b_law_message_octets:M:=
 (.cons (.sA 1 (.cY []))
 (.cons (.sF [2] true (.idx (.loc 0) (.cI 0)) (.cons (.sA 1 (.bin .add (.loc 1) (.call .law_var (.cons (.loc 2) .nil)))) .nil))
 (.cons (.sA 1 (.bin .add (.bin .add (.loc 1) (.blt .bytes (.cons (.lst (.cons (.bin .add (.idx (.loc 0) (.cI 1)) (.cI 0)) .nil)) .nil))) (.call .law_var (.cons (.blt .len (.cons (.idx (.loc 0) (.cI 2)) .nil)) .nil))))
 (.cons (.sF [3] true (.idx (.loc 0) (.cI 2)) (.cons (.sA 1 (.bin .add (.loc 1) (.call .law_len (.cons (.call .law_entry_octets (.cons (.loc 3) .nil)) .nil)))) .nil))
 (.cons (.sIf (.cmp .is (.idx (.loc 0) (.cI 3)) .cN) (.cons (.sA 1 (.bin .add (.loc 1) (.blt .bytes (.cons (.lst (.cons (.cI 0) .nil)) .nil)))) .nil) (.cons (.sA 1 (.bin .add (.bin .add (.loc 1) (.blt .bytes (.cons (.lst (.cons (.cI 1) .nil)) .nil))) (.call .law_len (.cons (.call .law_snap_octets (.cons (.idx (.loc 0) (.cI 3)) .nil)) .nil)))) .nil))
 (.cons (.sR (.bin .add (.loc 1) (.call .law_len (.cons (.idx (.loc 0) (.cI 4)) .nil)))) .nil))))))
noncomputable def b_law_conf:M:=
 (.cons (.sA 2 (.tup (.cons (.cI 1) (.cons (.cI 2) (.cons (.cI 130) (.cons (.cI 70000) .nil))))))
 (.cons (.sA 3 (.lst .nil))
 (.cons (.sF [4] true (.blt .range (.cons (.cI 4) .nil)) (.cons (.sA 5 (.call .law_take (.cons (.loc 0) (.cons (.loc 1) (.cons (.cI 16) .nil))))) (.cons (.sA 3 (.bin .add (.loc 3) (.lst (.cons (.blt .tuple (.cons (.comp (.idx (.loc 1) (.loc 0)) 0 (.blt .range (.cons (.cI 4) .nil)) (.cons (.cmp .eq (.bin .mod (.bin .fdiv (.loc 2) (.bin .pow (.cI 2) (.loc 0))) (.cI 2)) (.cI 1)) .nil) [2,5]) .nil)) .nil)))) .nil)))
 (.cons (.sR (.tup (.cons (.idx (.loc 3) (.cI 0)) (.cons (.idx (.loc 3) (.cI 1)) (.cons (.idx (.loc 3) (.cI 2)) (.cons (.idx (.loc 3) (.cI 3)) (.cons (.cmp .eq (.call .law_take (.cons (.loc 0) (.cons (.loc 1) (.cons (.cI 2) .nil)))) (.cI 1)) .nil))))))) .nil))))
noncomputable def b_law_mixed:M:=
 (.cons (.sR (.bin .add (.comp (.idx (.loc 1) (.bin .sub (.bin .sub (.blt .len (.cons (.loc 1) .nil)) (.cI 1)) (.loc 0))) 0 (.blt .range (.cons (.blt .len (.cons (.loc 0) .nil)) .nil)) .nil [0]) (.comp (.loc 0) 0 (.loc 0) .nil []))) .nil)
noncomputable def bW:M:=
 (.cons (.sA 2 (.call .law_take (.cons (.loc 0) (.cons (.loc 1) (.cons (.cI 4096) .nil)))))
 (.cons (.sA 3 (.lst .nil))
 (.cons (.sF [4] true (.blt .range (.cons (.call .law_take (.cons (.loc 0) (.cons (.loc 1) (.cons (.bin .add (.blt .min (.cons (.cI 2) (.cons (.bin .fdiv (.blt .len (.cons (.loc 0) .nil)) (.cI 4)) .nil))) (.cI 1)) .nil)))) .nil)) (.cons (.sA 5 (.call .law_field (.cons (.loc 0) (.cons (.loc 1) .nil)))) (.cons (.sA 6 (.call .law_field (.cons (.loc 0) (.cons (.loc 1) .nil)))) (.cons (.sA 3 (.bin .add (.loc 3) (.lst (.cons (.tup (.cons (.loc 5) (.cons (.loc 6) (.cons (.bin .mul (.cI 2) (.call .law_take (.cons (.loc 0) (.cons (.loc 1) (.cons (.cI 2) .nil))))) (.cons (.bin .mul (.call .law_octs (.cons (.loc 0) (.cons (.loc 1) (.cons (.cI 5) .nil)))) (.bin .add (.cI 1) (.bin .mul (.cI 29) (.bin .fdiv (.call .law_take (.cons (.loc 0) (.cons (.loc 1) (.cons (.cI 2) .nil)))) (.bin .add (.loc 4) (.cI 1)))))) .nil))))) .nil)))) .nil))))
 (.cons (.sA 7 (.call .law_conf (.cons (.loc 0) (.cons (.loc 1) .nil))))
 (.cons (.sA 8 (.new .ConfState (.cons (.call .law_mixed (.cons (.idx (.loc 7) (.cI 0)) .nil)) (.cons (.call .law_mixed (.cons (.idx (.loc 7) (.cI 1)) .nil)) (.cons (.call .law_mixed (.cons (.idx (.loc 7) (.cI 2)) .nil)) (.cons (.call .law_mixed (.cons (.idx (.loc 7) (.cI 3)) .nil)) (.cons (.idx (.loc 7) (.cI 4)) .nil)))))))
 (.cons (.sA 9 (.tup (.cons (.call .law_field (.cons (.loc 0) (.cons (.loc 1) .nil))) (.cons (.call .law_field (.cons (.loc 0) (.cons (.loc 1) .nil))) (.cons (.loc 7) (.cons (.call .law_octs (.cons (.loc 0) (.cons (.loc 1) (.cons (.cI 5) .nil)))) .nil))))))
 (.cons (.sA 10 (.new .Snapshot (.cons (.idx (.loc 9) (.cI 0)) (.cons (.idx (.loc 9) (.cI 1)) (.cons (.loc 8) (.cons (.idx (.loc 9) (.cI 3)) .nil))))))
 (.cons (.sA 11 (.lst .nil))
 (.cons (.sF [4] true (.blt .range (.cons (.call .law_take (.cons (.loc 0) (.cons (.loc 1) (.cons (.bin .add (.blt .min (.cons (.cI 3) (.cons (.bin .fdiv (.blt .len (.cons (.loc 0) .nil)) (.cI 4)) .nil))) (.cI 1)) .nil)))) .nil)) (.cons (.sA 12 (.call .law_take (.cons (.loc 0) (.cons (.loc 1) (.cons (.cI 4) .nil))))) (.cons (.sA 11 (.bin .add (.loc 11) (.lst (.cons (.tup (.cons (.loc 12) (.cons (.call .law_field (.cons (.loc 0) (.cons (.loc 1) .nil))) .nil))) .nil)))) .nil)))
 (.cons (.sA 13 (.tup (.cons (.call .law_take (.cons (.loc 0) (.cons (.loc 1) (.cons (.cI 3) .nil)))) (.cons (.blt .tuple (.cons (.loc 11) .nil)) (.cons (.call .law_octs (.cons (.loc 0) (.cons (.loc 1) (.cons (.cI 4) .nil)))) .nil)))))
 (.cons (.sA 14 (.bin .add (.lst (.cons (.call .law_take (.cons (.loc 0) (.cons (.loc 1) (.cons (.cI 21) .nil)))) .nil)) (.comp (.call .law_field (.cons (.loc 2) (.cons (.loc 1) .nil))) 0 (.blt .range (.cons (.cI 7) .nil)) .nil [1,0])))
 (.cons (.sA 15 (.ife (.cmp .gt (.bin .mod (.loc 2) (.cI 3)) (.cI 0)) (.loc 9) .cN))
 (.cons (.sA 16 (.tup (.cons (.blt .tuple (.cons (.loc 14) .nil)) (.cons (.cmp .eq (.bin .mod (.bin .fdiv (.loc 2) (.cI 3)) (.cI 2)) (.cI 1)) (.cons (.blt .tuple (.cons (.loc 3) .nil)) (.cons (.loc 15) (.cons (.call .law_octs (.cons (.loc 0) (.cons (.loc 1) (.cons (.cI 4) .nil)))) .nil)))))))
 (.cons (.sA 17 (.new .Message (.cons (.idx (.loc 14) (.cI 0)) (.cons (.idx (.loc 14) (.cI 1)) (.cons (.idx (.loc 14) (.cI 2)) (.cons (.idx (.loc 14) (.cI 3)) .nil))))))
 (.cons (.sAt (.loc 17) .log_term (.idx (.loc 14) (.cI 4)))
 (.cons (.sAt (.loc 17) .index (.idx (.loc 14) (.cI 5)))
 (.cons (.sAt (.loc 17) .commit (.idx (.loc 14) (.cI 6)))
 (.cons (.sAt (.loc 17) .reject_hint (.idx (.loc 14) (.cI 7)))
 (.cons (.sAt (.loc 17) .reject (.idx (.loc 16) (.cI 1)))
 (.cons (.sAt (.loc 17) .context (.idx (.loc 16) (.cI 4)))
 (.cons (.sIf (.cmp .isNot (.loc 15) .cN) (.cons (.sAt (.loc 17) .snapshot (.loc 10)) .nil) .nil)
 (.cons (.sF [18] true (.loc 3) (.cons (.sA 19 (.new .Entry (.cons (.idx (.loc 18) (.cI 0)) (.cons (.idx (.loc 18) (.cI 1)) (.cons (.idx (.loc 18) (.cI 2)) (.cons (.idx (.loc 18) (.cI 3)) .nil)))))) (.cons (.sE (.meth (.attr (.loc 17) .entries) .append (.cons (.loc 19) .nil))) (.cons (.sIf (.or (.not (.call .law_whole (.cons (.cI 2) (.cons (.call .encode_entry (.cons (.loc 19) .nil)) (.cons (.call .law_entry_octets (.cons (.loc 18) .nil)) (.cons (.loc 18) (.cons (.loc 2) .nil))))))) (.cmp .ne (.meth (.loc 19) .size .nil) (.blt .len (.cons (.call .encode_entry (.cons (.loc 19) .nil)) .nil)))) (.cons (.sR (.cB false)) .nil) .nil) (.cons (.sIf (.cmp .isNot (.call .law_read (.cons (.cI 2) (.cons (.call .law_entry_octets (.cons (.tup (.cons (.idx (.loc 18) (.cI 0)) (.cons (.idx (.loc 18) (.cI 1)) (.cons (.bin .add (.cI 1) (.bin .mul (.bin .mod (.loc 2) (.cI 9)) (.cI 2))) (.cons (.idx (.loc 18) (.cI 3)) .nil))))) .nil)) .nil))) .cN) (.cons (.sR (.cB false)) .nil) .nil) .nil)))))
 (.cons (.sIf (.not (.call .law_whole (.cons (.cI 3) (.cons (.call .encode_conf (.cons (.loc 8) .nil)) (.cons (.call .law_conf_octets (.cons (.loc 7) .nil)) (.cons (.loc 7) (.cons (.loc 2) .nil))))))) (.cons (.sR (.cB false)) .nil) .nil)
 (.cons (.sIf (.not (.call .law_whole (.cons (.cI 4) (.cons (.call .encode_change (.cons (.new .ConfChange (.cons (.idx (.loc 13) (.cI 0)) (.cons (.loc 11) (.cons (.idx (.loc 13) (.cI 2)) .nil)))) .nil)) (.cons (.call .law_change_octets (.cons (.loc 13) .nil)) (.cons (.loc 13) (.cons (.loc 2) .nil))))))) (.cons (.sR (.cB false)) .nil) .nil)
 (.cons (.sIf (.not (.call .law_whole (.cons (.cI 5) (.cons (.call .encode_snapshot (.cons (.loc 10) .nil)) (.cons (.call .law_snap_octets (.cons (.loc 9) .nil)) (.cons (.loc 9) (.cons (.loc 2) .nil))))))) (.cons (.sR (.cB false)) .nil) .nil)
 (.cons (.sIf (.not (.call .law_whole (.cons (.cI 6) (.cons (.call .encode_message (.cons (.loc 17) .nil)) (.cons (.call .law_message_octets (.cons (.loc 16) .nil)) (.cons (.loc 16) (.cons (.loc 2) .nil))))))) (.cons (.sR (.cB false)) .nil) .nil)
 (.cons (.sIf (.cmp .ne (.meth (.call .decode_change (.cons (.cY []) .nil)) .row .nil) (.tup (.cons (.cI 0) (.cons (.tup .nil) (.cons (.cY []) .nil))))) (.cons (.sR (.cB false)) .nil) .nil)
 (.cons (.sA 20 (.meth (.loc 17) .copy .nil))
 (.cons (.sIf (.or (.cmp .ne (.call .law_message_row (.cons (.loc 20) .nil)) (.loc 16)) (.cmp .ne (.meth (.loc 20) .row .nil) (.meth (.loc 17) .row .nil))) (.cons (.sR (.cB false)) .nil) .nil)
 (.cons (.sE (.meth (.attr (.loc 20) .entries) .append (.cons (.new .Entry (.cons (.cI 1) (.cons (.cI 1) (.cons (.cI 0) (.cons (.cY []) .nil))))) .nil)))
 (.cons (.sAt (.idx (.attr (.loc 20) .entries) (.cI 0)) .term (.bin .add (.loc 2) (.cI 7)))
 (.cons (.sAt (.idx (.attr (.loc 20) .entries) (.cI 0)) .data (.cY [111,116,104,101,114]))
 (.cons (.sIf (.cmp .isNot (.attr (.loc 20) .snapshot) .cN) (.cons (.sAt (.attr (.loc 20) .snapshot) .index (.bin .add (.loc 2) (.cI 7))) (.cons (.sE (.meth (.attr (.attr (.attr (.loc 20) .snapshot) .conf) .voters) .append (.cons (.bin .add (.loc 2) (.cI 70001)) .nil))) .nil)) .nil)
 (.cons (.sIf (.or (.cmp .ne (.call .law_message_row (.cons (.loc 17) .nil)) (.loc 16)) (.cmp .ne (.call .kind_of_message (.cons (.call .encode_message (.cons (.loc 17) .nil)) .nil)) (.idx (.loc 14) (.cI 0)))) (.cons (.sR (.cB false)) .nil) .nil)
 (.cons (.sA 21 (.bin .mod (.loc 2) (.cI 40)))
 (.cons (.sA 22 (.cI 0))
 (.cons (.sA 23 (.cI 0))
 (.cons (.sF [18] true (.loc 3) (.cons (.sA 23 (.bin .add (.loc 23) (.blt .len (.cons (.call .law_entry_octets (.cons (.loc 18) .nil)) .nil)))) (.cons (.sIf (.or (.cmp .eq (.loc 22) (.cI 0)) (.cmp .le (.loc 23) (.loc 21))) (.cons (.sA 22 (.bin .add (.loc 22) (.cI 1))) .nil) (.cons (.sA 21 (.neg (.cI 1))) .nil)) .nil)))
 (.cons (.sIf (.cmp .ne (.comp (.call .law_entry_row (.cons (.loc 0) .nil)) 0 (.call .limit_size (.cons (.attr (.loc 17) .entries) (.cons (.bin .mod (.loc 2) (.cI 40)) .nil))) .nil []) (.slc (.loc 3) .nil (.loc 22))) (.cons (.sR (.cB false)) .nil) .nil)
 (.cons (.sA 24 (.cB false))
 (.cons (.sTry (.cons (.sE (.call .encode_entry (.cons (.new .Entry (.cons (.bin .add (.cI 18446744073709551616) (.loc 2)) (.cons (.cI 1) (.cons (.cI 0) (.cons (.cY []) .nil))))) .nil))) .nil) .BadOption (.cons (.sA 24 (.cB true)) .nil))
 (.cons (.sIf (.not (.loc 24)) (.cons (.sR (.cB false)) .nil) .nil)
 (.cons (.sA 25 (.idx (.lst (.cons (.tup (.cons (.bin .add (.cI 2) (.bin .mod (.loc 2) (.cI 3))) (.cons (.bin .add (.cI 1) (.bin .mod (.bin .fdiv (.loc 2) (.cI 3)) (.cI 2))) .nil))) (.cons (.tup (.cons (.bin .mod (.loc 2) (.cI 5)) (.cons (.bin .mod (.loc 2) (.cI 5)) .nil))) .nil))) (.bin .mod (.loc 2) (.cI 2))))
 (.cons (.sA 26 (.lst (.cons (.idx (.loc 7) (.cI 0)) (.cons (.idx (.loc 7) (.cI 1)) (.cons (.idx (.loc 7) (.cI 2)) (.cons (.idx (.loc 7) (.cI 3)) .nil))))))
 (.cons (.sIx (.loc 26) (.bin .mod (.bin .fdiv (.loc 2) (.cI 2)) (.cI 4)) (.loc 25))
 (.cons (.sIf (.cmp .isNot (.call .law_read (.cons (.cI 3) (.cons (.call .law_conf_octets (.cons (.tup (.cons (.idx (.loc 26) (.cI 0)) (.cons (.idx (.loc 26) (.cI 1)) (.cons (.idx (.loc 26) (.cI 2)) (.cons (.idx (.loc 26) (.cI 3)) (.cons (.idx (.loc 7) (.cI 4)) .nil)))))) .nil)) .nil))) .cN) (.cons (.sR (.cB false)) .nil) .nil)
 (.cons (.sIf (.cmp .isNot (.call .law_read (.cons (.cI 3) (.cons (.call .law_conf_octets (.cons (.tup (.cons (.idx (.loc 7) (.cI 0)) (.cons (.idx (.loc 7) (.cI 1)) (.cons (.idx (.loc 7) (.cI 2)) (.cons (.idx (.loc 7) (.cI 3)) (.cons (.bin .add (.cI 2) (.bin .mod (.loc 2) (.cI 254))) .nil)))))) .nil)) .nil))) .cN) (.cons (.sR (.cB false)) .nil) .nil)
 (.cons (.sIf (.cmp .isNot (.call .law_read (.cons (.cI 4) (.cons (.call .law_change_octets (.cons (.tup (.cons (.bin .add (.cI 3) (.loc 2)) (.cons (.idx (.loc 13) (.cI 1)) (.cons (.idx (.loc 13) (.cI 2)) .nil)))) .nil)) .nil))) .cN) (.cons (.sR (.cB false)) .nil) .nil)
 (.cons (.sIf (.cmp .isNot (.call .law_read (.cons (.cI 4) (.cons (.call .law_change_octets (.cons (.tup (.cons (.idx (.loc 13) (.cI 0)) (.cons (.bin .add (.idx (.loc 13) (.cI 1)) (.tup (.cons (.tup (.cons (.bin .add (.cI 4) (.loc 2)) (.cons (.cI 1) .nil))) .nil))) (.cons (.idx (.loc 13) (.cI 2)) .nil)))) .nil)) .nil))) .cN) (.cons (.sR (.cB false)) .nil) .nil)
 (.cons (.sIf (.cmp .isNot (.call .law_read (.cons (.cI 6) (.cons (.call .law_message_octets (.cons (.tup (.cons (.bin .add (.tup (.cons (.bin .add (.cI 21) (.loc 2)) .nil)) (.slc (.idx (.loc 16) (.cI 0)) (.cI 1) .nil)) (.cons (.idx (.loc 16) (.cI 1)) (.cons (.idx (.loc 16) (.cI 2)) (.cons (.idx (.loc 16) (.cI 3)) (.cons (.idx (.loc 16) (.cI 4)) .nil)))))) .nil)) .nil))) .cN) (.cons (.sR (.cB false)) .nil) .nil)
 (.cons (.sA 27 (.call .law_message_octets (.cons (.tup (.cons (.idx (.loc 16) (.cI 0)) (.cons (.idx (.loc 16) (.cI 1)) (.cons (.idx (.loc 16) (.cI 2)) (.cons .cN (.cons (.cY []) .nil)))))) .nil)))
 (.cons (.sIf (.or (.cmp .ne (.call .law_read (.cons (.cI 6) (.cons (.loc 27) .nil))) (.tup (.cons (.idx (.loc 16) (.cI 0)) (.cons (.idx (.loc 16) (.cI 1)) (.cons (.idx (.loc 16) (.cI 2)) (.cons .cN (.cons (.cY []) .nil))))))) (.cmp .isNot (.call .law_read (.cons (.cI 6) (.cons (.bin .add (.slc (.loc 27) .nil (.bin .sub (.blt .len (.cons (.loc 27) .nil)) (.cI 2))) (.blt .bytes (.cons (.lst (.cons (.bin .add (.cI 2) (.bin .mod (.loc 2) (.cI 254))) (.cons (.cI 0) .nil))) .nil))) .nil))) .cN)) (.cons (.sR (.cB false)) .nil) .nil)
 (.cons (.sR (.cmp .is (.call .law_read (.cons (.cI 6) (.cons (.call .law_message_octets (.cons (.tup (.cons (.idx (.loc 16) (.cI 0)) (.cons (.bin .add (.cI 2) (.bin .mod (.loc 2) (.cI 254))) (.cons (.idx (.loc 16) (.cI 2)) (.cons (.idx (.loc 16) (.cI 3)) (.cons (.idx (.loc 16) (.cI 4)) .nil)))))) .nil)) .nil))) .cN)) .nil)))))))))))))))))))))))))))))))))))))))))))))))))))))
noncomputable def b_law_command_octets:M:=
 (.cons (.sR (.bin .add (.bin .add (.bin .add (.bin .add (.bin .add (.call .law_var (.cons (.idx (.loc 0) (.cI 0)) .nil)) (.call .law_var (.cons (.idx (.loc 0) (.cI 1)) .nil))) (.call .law_var (.cons (.idx (.loc 0) (.cI 2)) .nil))) (.call .law_len (.cons (.idx (.loc 0) (.cI 3)) .nil))) (.call .law_len (.cons (.idx (.loc 0) (.cI 4)) .nil))) (.call .law_opt (.cons (.idx (.loc 0) (.cI 5)) .nil)))) .nil)
noncomputable def b_law_refused_command:M:=
 (.cons (.sTry (.cons (.sE (.meth (.new .Command (.cons (.idx (.loc 0) (.cI 0)) (.cons (.idx (.loc 0) (.cI 1)) (.cons (.idx (.loc 0) (.cI 2)) (.cons (.idx (.loc 0) (.cI 3)) (.cons (.idx (.loc 0) (.cI 4)) (.cons (.idx (.loc 0) (.cI 5)) .nil))))))) .encode .nil)) .nil) .BadCommand (.cons (.sR (.cB true)) .nil))
 (.cons (.sR (.cB false)) .nil))
noncomputable def gE:M:=
 (.cons (.sA 2 (.call .law_take (.cons (.loc 0) (.cons (.loc 1) (.cons (.cI 4096) .nil)))))
 (.cons (.sA 3 (.call .law_field (.cons (.loc 0) (.cons (.loc 1) .nil))))
 (.cons (.sA 4 (.call .law_field (.cons (.loc 0) (.cons (.loc 1) .nil))))
 (.cons (.sA 5 (.call .law_octs (.cons (.loc 0) (.cons (.loc 1) (.cons (.cI 4) .nil)))))
 (.cons (.sA 6 (.bin .mul (.call .law_octs (.cons (.loc 0) (.cons (.loc 1) (.cons (.cI 5) .nil)))) (.bin .add (.cI 1) (.bin .mul (.cI 29) (.call .law_take (.cons (.loc 0) (.cons (.loc 1) (.cons (.cI 2) .nil))))))))
 (.cons (.sA 7 (.call .law_maybe (.cons (.loc 0) (.cons (.loc 1) (.cons (.cI 4) .nil)))))
 (.cons (.sA 8 (.tup (.cons (.bin .mod (.loc 2) (.cI 7)) (.cons (.loc 3) (.cons (.loc 4) (.cons (.loc 5) (.cons (.loc 6) (.cons (.loc 7) .nil))))))))
 (.cons (.sA 9 (.meth (.new .Command (.cons (.idx (.loc 8) (.cI 0)) (.cons (.loc 3) (.cons (.loc 4) (.cons (.loc 5) (.cons (.loc 6) (.cons (.loc 7) .nil))))))) .encode .nil))
 (.cons (.sIf (.or (.cmp .ne (.loc 9) (.call .law_command_octets (.cons (.loc 8) .nil))) (.cmp .ne (.call .law_read_command (.cons (.loc 9) .nil)) (.loc 8))) (.cons (.sR (.cB false)) .nil) .nil)
 (.cons (.sF [10] true (.call .law_cuts (.cons (.blt .len (.cons (.loc 9) .nil)) (.cons (.loc 2) .nil))) (.cons (.sIf (.cmp .isNot (.call .law_read_command (.cons (.slc (.loc 9) .nil (.loc 10)) .nil)) .cN) (.cons (.sR (.cB false)) .nil) .nil) .nil))
 (.cons (.sIf (.cmp .isNot (.call .law_read_command (.cons (.bin .add (.loc 9) (.blt .bytes (.cons (.lst (.cons (.bin .mod (.loc 2) (.cI 256)) .nil)) .nil))) .nil)) .cN) (.cons (.sR (.cB false)) .nil) .nil)
 (.cons (.sIf (.cmp .isNot (.call .law_read_command (.cons (.call .law_command_octets (.cons (.tup (.cons (.bin .add (.cI 7) (.loc 2)) (.cons (.loc 3) (.cons (.loc 4) (.cons (.loc 5) (.cons (.loc 6) (.cons (.loc 7) .nil))))))) .nil)) .nil)) .cN) (.cons (.sR (.cB false)) .nil) .nil)
 (.cons (.sIf (.cmp .isNot (.call .law_read_command (.cons (.bin .add (.slc (.call .law_command_octets (.cons (.tup (.cons (.idx (.loc 8) (.cI 0)) (.cons (.loc 3) (.cons (.loc 4) (.cons (.loc 5) (.cons (.loc 6) (.cons .cN .nil))))))) .nil)) .nil (.neg (.cI 1))) (.blt .bytes (.cons (.lst (.cons (.bin .add (.cI 2) (.bin .mod (.loc 2) (.cI 254))) .nil)) .nil))) .nil)) .cN) (.cons (.sR (.cB false)) .nil) .nil)
 (.cons (.sA 11 (.bin .add (.cI 18446744073709551616) (.loc 2)))
 (.cons (.sF [12] true (.tup (.cons (.tup (.cons (.bin .add (.cI 7) (.loc 2)) (.cons (.loc 3) (.cons (.loc 4) .nil)))) (.cons (.tup (.cons (.bin .sub (.neg (.cI 1)) (.loc 2)) (.cons (.loc 3) (.cons (.loc 4) .nil)))) (.cons (.tup (.cons (.idx (.loc 8) (.cI 0)) (.cons (.loc 11) (.cons (.loc 4) .nil)))) (.cons (.tup (.cons (.idx (.loc 8) (.cI 0)) (.cons (.loc 3) (.cons (.loc 11) .nil)))) (.cons (.tup (.cons (.idx (.loc 8) (.cI 0)) (.cons (.bin .sub (.neg (.cI 1)) (.loc 2)) (.cons (.loc 4) .nil)))) (.cons (.tup (.cons (.idx (.loc 8) (.cI 0)) (.cons (.loc 3) (.cons (.bin .sub (.neg (.cI 1)) (.loc 2)) .nil)))) .nil))))))) (.cons (.sIf (.not (.call .law_refused_command (.cons (.tup (.cons (.idx (.loc 12) (.cI 0)) (.cons (.idx (.loc 12) (.cI 1)) (.cons (.idx (.loc 12) (.cI 2)) (.cons (.loc 5) (.cons (.loc 6) (.cons (.loc 7) .nil))))))) .nil))) (.cons (.sR (.cB false)) .nil) .nil) .nil))
 (.cons (.sA 13 (.call .law_take (.cons (.loc 0) (.cons (.loc 1) (.cons (.cI 4) .nil)))))
 (.cons (.sA 14 (.call .make_reply (.cons (.loc 13) (.cons (.loc 7) .nil))))
 (.cons (.sIf (.not (.call .law_whole (.cons (.cI 7) (.cons (.loc 14) (.cons (.bin .add (.blt .bytes (.cons (.lst (.cons (.loc 13) .nil)) .nil)) (.call .law_opt (.cons (.loc 7) .nil))) (.cons (.tup (.cons (.loc 13) (.cons (.loc 7) .nil))) (.cons (.loc 2) .nil))))))) (.cons (.sR (.cB false)) .nil) .nil)
 (.cons (.sIf (.cmp .isNot (.call .law_read (.cons (.cI 7) (.cons (.bin .add (.blt .bytes (.cons (.lst (.cons (.bin .add (.cI 4) (.bin .mod (.loc 2) (.cI 252))) .nil)) .nil)) (.call .law_opt (.cons (.loc 7) .nil))) .nil))) .cN) (.cons (.sR (.cB false)) .nil) .nil)
 (.cons (.sIf (.cmp .isNot (.call .law_read (.cons (.cI 7) (.cons (.blt .bytes (.cons (.lst (.cons (.loc 13) (.cons (.bin .add (.cI 2) (.bin .mod (.loc 2) (.cI 254))) .nil))) .nil)) .nil))) .cN) (.cons (.sR (.cB false)) .nil) .nil)
 (.cons (.sA 15 (.cmp .eq (.call .law_take (.cons (.loc 0) (.cons (.loc 1) (.cons (.cI 2) .nil)))) (.cI 1)))
 (.cons (.sA 16 (.call .encode_session (.cons (.loc 4) (.cons (.loc 15) (.cons (.loc 14) .nil)))))
 (.cons (.sIf (.not (.call .law_whole (.cons (.cI 8) (.cons (.loc 16) (.cons (.bin .add (.bin .add (.call .law_var (.cons (.loc 4) .nil)) (.blt .bytes (.cons (.lst (.cons (.bin .add (.loc 15) (.cI 0)) .nil)) .nil))) (.call .law_len (.cons (.loc 14) .nil))) (.cons (.tup (.cons (.loc 4) (.cons (.loc 15) (.cons (.loc 14) .nil)))) (.cons (.loc 2) .nil))))))) (.cons (.sR (.cB false)) .nil) .nil)
 (.cons (.sIf (.cmp .isNot (.call .law_read (.cons (.cI 8) (.cons (.bin .add (.bin .add (.call .law_var (.cons (.loc 4) .nil)) (.blt .bytes (.cons (.lst (.cons (.bin .add (.cI 2) (.bin .mod (.loc 2) (.cI 254))) .nil)) .nil))) (.call .law_len (.cons (.loc 14) .nil))) .nil))) .cN) (.cons (.sR (.cB false)) .nil) .nil)
 (.cons (.sA 17 (.call .session_key (.cons (.loc 3) .nil)))
 (.cons (.sIf (.or (.cmp .ne (.loc 17) (.bin .add (.cY [115]) (.blt .bytes (.cons (.comp (.bin .mod (.bin .fdiv (.loc 1) (.bin .pow (.cI 256) (.bin .sub (.cI 7) (.loc 0)))) (.cI 256)) 0 (.blt .range (.cons (.cI 8) .nil)) .nil [3]) .nil)))) (.cmp .ne (.call .client_of (.cons (.loc 17) .nil)) (.loc 3))) (.cons (.sR (.cB false)) .nil) .nil)
 (.cons (.sR (.cmp .eq (.cmp .lt (.loc 17) (.call .session_key (.cons (.loc 4) .nil))) (.cmp .lt (.loc 3) (.loc 4)))) .nil)))))))))))))))))))))))))))
noncomputable def b_law:M:=
 (.cons (.sA 1 (.comp (.loc 0) 0 (.slc (.loc 0) .nil (.cI 40)) .nil []))
 (.cons (.sIf (.cmp .eq (.blt .len (.cons (.loc 1) .nil)) (.cI 0)) (.cons (.sA 1 (.lst (.cons (.cI 0) .nil))) .nil) .nil)
 (.cons (.sA 2 (.lst (.cons (.cI 0) .nil)))
 (.cons (.sIf (.cmp .eq (.call .law_take (.cons (.loc 1) (.cons (.loc 2) (.cons (.cI 2) .nil)))) (.cI 0)) (.cons (.sR (.call .law_raft (.cons (.loc 1) (.cons (.loc 2) .nil)))) .nil) .nil)
 (.cons (.sR (.call .law_commands (.cons (.loc 1) (.cons (.loc 2) .nil)))) .nil)))))
noncomputable def defs:List Def:=[
 ⟨["n", "most", "out"],2,1,[],b_write_groups⟩,
 ⟨["data", "at", "octets", "most", "n", "shift", "turn", "octet"],4,4,[],b_read_groups⟩,
 ⟨["n"],1,0,[],b_put_varint⟩,
 ⟨["data", "at"],2,0,[],b_read_varint⟩,
 ⟨["n"],1,0,[],b_put_varint32⟩,
 ⟨["data", "at"],2,0,[],b_read_varint32⟩,
 ⟨["n", "count"],1,1,[],b_varint_length⟩,
 ⟨["n"],1,0,[],b_put_fixed32⟩,
 ⟨["n"],1,0,[],b_put_fixed64⟩,
 ⟨["data", "at", "count"],2,1,[],b_read_lengthed⟩,
 ⟨["self", "data", "at"],3,0,[0],b_Cursor_init⟩,
 ⟨["self"],1,0,[],b_Cursor_left⟩,
 ⟨["self", "at", "n"],1,2,[],b_Cursor_varint⟩,
 ⟨["self", "b", "at"],1,2,[],b_Cursor_lengthed⟩,
 ⟨["self", "n"],1,1,[],b_Cursor_octet⟩,
 ⟨["self", "n"],1,1,[],b_Cursor_flag⟩,
 ⟨["self"],1,0,[],b_Cursor_done⟩,
 ⟨["self"],1,0,[],b_Sink_init⟩,
 ⟨["self", "n"],2,0,[],b_Sink_varint⟩,
 ⟨["self", "b"],2,0,[],b_Sink_lengthed⟩,
 ⟨["self", "n"],2,0,[],b_Sink_octet⟩,
 ⟨["self", "b"],2,0,[],b_Sink_flag⟩,
 ⟨["self"],1,0,[],b_Sink_done⟩,
 ⟨["ids", "out", "nid"],1,2,[],b_rising⟩,
 ⟨["cursor", "count"],1,1,[],b_take_count⟩,
 ⟨["self", "term", "index", "kind", "data"],5,0,[],b_Entry_init⟩,
 ⟨["self"],1,0,[],b_Entry_row⟩,
 ⟨["self"],1,0,[],b_Entry_copy⟩,
 ⟨["self", "length", "head"],1,2,[],b_Entry_size⟩,
 ⟨["entry", "sink"],1,1,[],b_encode_entry⟩,
 ⟨["data", "cursor", "term", "index", "kind", "body"],1,5,[],b_decode_entry⟩,
 ⟨["entries", "n", "total", "kept", "entry"],2,3,[],b_limit_size⟩,
 ⟨["self", "voters", "learners", "outgoing", "learners_next", "auto_leave"],6,0,[],b_ConfState_init⟩,
 ⟨["self"],1,0,[],b_ConfState_row⟩,
 ⟨["self"],1,0,[],b_ConfState_copy⟩,
 ⟨["sink", "ids", "nid"],2,1,[],b_put_ids⟩,
 ⟨["cursor", "out", "_", "nid"],1,3,[],b_take_ids⟩,
 ⟨["conf", "sink"],1,1,[],b_encode_conf⟩,
 ⟨["data", "cursor", "voters", "learners", "outgoing", "learners_next", "auto_leave"],1,6,[],b_decode_conf⟩,
 ⟨["self", "index", "term", "conf", "data"],5,0,[],b_Snapshot_init⟩,
 ⟨["self"],1,0,[],b_Snapshot_row⟩,
 ⟨["self"],1,0,[],b_Snapshot_copy⟩,
 ⟨["snapshot", "sink"],1,1,[],b_encode_snapshot⟩,
 ⟨["data", "cursor", "index", "term", "conf", "body"],1,5,[],b_decode_snapshot⟩,
 ⟨["self", "kind", "to", "frm", "term"],5,0,[],b_Message_init⟩,
 ⟨["self", "entries", "snapshot"],1,2,[],b_Message_row⟩,
 ⟨["self", "other"],1,1,[],b_Message_copy⟩,
 ⟨["message", "sink", "entry"],1,2,[],b_encode_message⟩,
 ⟨["data", "cursor", "kind", "to", "frm", "message", "_"],1,6,[],iY⟩,
 ⟨["data"],1,0,[],b_kind_of_message⟩,
 ⟨["self", "transition", "changes", "context"],4,0,[],b_ConfChange_init⟩,
 ⟨["self"],1,0,[],b_ConfChange_row⟩,
 ⟨["change", "sink", "kind", "nid"],1,3,[],b_encode_change⟩,
 ⟨["data", "cursor", "transition", "changes", "_", "kind", "context"],1,6,[],b_decode_change⟩,
 ⟨["self", "kind", "client", "number", "key", "value", "expect"],7,0,[],b_Command_init⟩,
 ⟨["self", "sink"],1,1,[],b_Command_encode⟩,
 ⟨["sink", "octets"],2,0,[],b_put_maybe⟩,
 ⟨["cursor"],1,0,[],b_take_maybe⟩,
 ⟨["data", "cursor", "kind", "client", "number", "key", "value", "expect"],1,7,[],b_decode_command⟩,
 ⟨["code", "old", "sink"],2,1,[],b_make_reply⟩,
 ⟨["data", "cursor", "code", "old"],1,3,[],b_read_reply⟩,
 ⟨["client", "low"],1,1,[],b_session_key⟩,
 ⟨["key", "client", "octet"],1,2,[],b_client_of⟩,
 ⟨["last", "is_open", "reply", "sink"],3,1,[],b_encode_session⟩,
 ⟨["data", "cursor", "last", "is_open", "reply"],1,4,[],b_decode_session⟩,
 ⟨["tape", "at", "m", "k"],3,1,[],b_law_take⟩,
 ⟨["tape", "at", "x", "edges"],2,2,[],b_law_field⟩,
 ⟨["tape", "at", "most", "x"],3,1,[],b_law_octs⟩,
 ⟨["tape", "at", "most"],3,0,[],b_law_maybe⟩,
 ⟨["n", "g", "rest"],1,2,[],b_law_var⟩,
 ⟨["b"],1,0,[],b_law_len⟩,
 ⟨["b"],1,0,[],b_law_opt⟩,
 ⟨["size", "x"],2,0,[],b_law_cuts⟩,
 ⟨["c"],1,0,[],b_law_conf_row⟩,
 ⟨["e"],1,0,[],b_law_entry_row⟩,
 ⟨["s"],1,0,[],b_law_snap_row⟩,
 ⟨["m", "held", "head"],1,2,[],b_law_message_row⟩,
 ⟨["c"],1,0,[],b_law_command_row⟩,
 ⟨["kind", "data", "change"],2,1,[],b_law_read⟩,
 ⟨["data"],1,0,[],b_law_read_command⟩,
 ⟨["kind", "enc", "want", "row", "x", "cut"],5,1,[],b_law_whole⟩,
 ⟨["e"],1,0,[],b_law_entry_octets⟩,
 ⟨["c", "out", "ids", "nid"],1,3,[],b_law_conf_octets⟩,
 ⟨["s"],1,0,[],b_law_snap_octets⟩,
 ⟨["c", "out", "kind", "nid"],1,3,[],b_law_change_octets⟩,
 ⟨["m", "out", "n", "e"],1,3,[],b_law_message_octets⟩,
 ⟨["tape", "at", "ids", "rows", "k", "x"],2,4,[],b_law_conf⟩,
 ⟨["ids"],1,0,[],b_law_mixed⟩,
 ⟨["tape", "at", "x", "entries", "i", "term", "index", "c", "state", "s", "shot", "changes", "kind", "g", "head", "held", "m", "made", "e", "one", "twin", "room", "fit", "total", "wide", "stray", "lists", "bare"],2,26,[],bW⟩,
 ⟨["c"],1,0,[],b_law_command_octets⟩,
 ⟨["c"],1,0,[],b_law_refused_command⟩,
 ⟨["tape", "at", "x", "client", "number", "key", "value", "expect", "c", "enc", "cut", "huge", "wrong", "code", "reply", "is_open", "row", "place"],2,16,[],gE⟩,
 ⟨["script", "tape", "at"],1,2,[],b_law⟩]
noncomputable def nthD:List Def→Nat→Def
 | [],_=>⟨[],0,0,[],.nil⟩
 | d::_,0=>d
 | _::r,n+1=>nthD r n
noncomputable def Fn.info (f:Fn):Def:=nthD defs f.val
end Internal
end
section
namespace Internal
set_option genCtorIdx true in
inductive V where
 | none | bool (b:Bool) | int (i:Int) | str | bytes (b:List Nat) | tup (vs:List V) | rng (n:Int) | obj (i:Nat)
set_option genCtorIdx true in
inductive AO where
 | list (vs:List V) | barr (b:List Nat) | inst (c:Cls) (kvs:List (At×V))
noncomputable abbrev aN:=List AO
noncomputable abbrev Lo:=List (Option V)
inductive Fl where
 | next | brk | ret (v:V)
noncomputable def cD:Lo→Nat→Option V
 | [],_=>.none
 | o::_,0=>o
 | _::r,n+1=>cD r n
noncomputable def optP {α:Type}:Option α→(α→Prop)→Prop
 | some a,P=>P a
 | .none,_=>False
noncomputable def jY:Lo→Nat→V→Lo
 | [],_,_=>[]
 | _::r,0,v=>some v::r
 | o::r,n+1,v=>o::jY r n v
noncomputable def setVs (m:Lo) (is:List Nat) (vs:List V):Lo:=match is with
 | []=>m
 | i::is=>match vs with
  | []=>m
  | v::vs=>setVs (jY m i v) is vs
noncomputable def getA (n:At):List (At×V)→Option V
 | []=>.none
 | (k,v)::r=>if k=n then some v else getA n r
noncomputable def putA (n:At) (v:V):List (At×V)→List (At×V)
 | []=>[(n,v)]
 | (k,w)::r=>if k=n then (k,v)::r else (k,w)::putA n v r
noncomputable def nth {α:Type} (vs:List α) (k:Int):Option α:=if 0≤k then vs[k.toNat]? else if 0≤k+vs.length then vs[(k+vs.length).toNat]? else .none
noncomputable def lS (n:Nat) (k:Int):Nat:=(max 0 (min (if k < 0 then k+n else k) n)).toNat
theorem oY {n k:Nat}:lS n (k:Int)=min k n:=by
 unfold lS
 rw [if_neg (gP.mpr (aV k)),Int.max_eq_right (Int.le_min.mpr ⟨aV k,aV n⟩)]
 rcases Nat.le_total k n with h | h
 ·rw [oO (cC.mpr h),kK h];rfl
 ·rw [Int.min_eq_right (cC.mpr h),Nat.min_eq_right h];rfl
noncomputable def slice {α:Type} (vs:List α) (lo hi:Nat):List α:=(vs.take hi).drop lo
noncomputable def rep {α:Type} (b:List α):Nat→List α
 | 0=>[]
 | n+1=>b++rep b n
noncomputable def ltB:List Nat→List Nat→Bool
 | [],[]=>false
 | [],_::_=>true
 | _::_,[]=>false
 | a::x,b::y=>if a < b then true else if b < a then false else ltB x y
noncomputable def V.pure:Nat→V→Bool
 | _,.none=>true | _,.bool _=>true | _,.int _=>true | _,.bytes _=>true
 | n+1,.tup vs=>vs.all (V.pure n)
 | _,_=>false
noncomputable def lim:Nat:=1048576
theorem lO:lim=1048576:=rfl
noncomputable def jE (a:Int):List Int→List Int
 | []=>[a]
 | b::r=>if b≤a then b::jE a r else a::b::r
noncomputable def pC:Ex→Ex→Bool
 | .ShortOctets,.Corrupt=>true
 | x,y=>x==y
inductive WBin (σ:aN) (Q:V→aN→Prop):BOp→V→V→Prop
 | add {x y} (q:Q (.int (x+y)) σ):WBin σ Q .add (.int x) (.int y)
 | sub {x y} (q:Q (.int (x - y)) σ):WBin σ Q .sub (.int x) (.int y)
 | mul {x y} (h:x.natAbs < 2 ^ 64∨y.natAbs < 2 ^ 64) (q:Q (.int (x*y)) σ):WBin σ Q .mul (.int x) (.int y)
 | div {x y} (h:0 < y) (l:y.natAbs < 2 ^ 100) (q:Q (.int (x / y)) σ):WBin σ Q .fdiv (.int x) (.int y)
 | mod {x y} (h:0 < y) (q:Q (.int (x % y)) σ):WBin σ Q .mod (.int x) (.int y)
 | pow {x y} (h:0≤y) (l:y≤64) (b:x.natAbs < 2 ^ 64) (q:Q (.int (x ^ y.toNat)) σ):WBin σ Q .pow (.int x) (.int y)
 | and {x y:Nat} (q:Q (.int ((x &&& y:Nat):Int)) σ):WBin σ Q .band (.int x) (.int y)
 | or {x y:Nat} (q:Q (.int ((x ||| y:Nat):Int)) σ):WBin σ Q .bor (.int x) (.int y)
 | shl {x y} (h:0≤y) (l:y≤1000) (b:x.natAbs < 2 ^ 64) (q:Q (.int (x*2 ^ y.toNat)) σ):WBin σ Q .shl (.int x) (.int y)
 | shr {x y} (h:0≤y) (q:Q (.int (x / 2 ^ y.toNat)) σ):WBin σ Q .shr (.int x) (.int y)
 | addF {x:Bool} {y:Int} (q:Q (.int ((if x=true then 1 else 0)+y)) σ):WBin σ Q .add (.bool x) (.int y)
 | addB {x y} (h:x.length+y.length≤lim) (q:Q (.bytes (x++y)) σ):WBin σ Q .add (.bytes x) (.bytes y)
 | mulB {x} {n:Nat} (h:n≤lim) (l:x.length≤16) (z:x.length*n≤lim) (q:Q (.bytes (rep x n)) σ):WBin σ Q .mul (.bytes x) (.int n)
 | addT {x y} (h:x.length+y.length≤lim) (q:Q (.tup (x++y)) σ):WBin σ Q .add (.tup x) (.tup y)
 | addL {i j x y} (h1:σ[i]? =some (.list x)) (h2:σ[j]? =some (.list y)) (h:x.length+y.length≤lim) (q:Q (.obj σ.length) (σ++[.list (x++y)])):WBin σ Q .add (.obj i) (.obj j)
noncomputable abbrev mQ (op:BOp) (a b:V) (σ:aN) (Q:V→aN→Prop):Prop:=WBin σ Q op a b
noncomputable def isNV:V→Bool
 | .none=>true
 | _=>false
inductive WCmp (σ:aN) (k:Bool→Prop):COp→V→V→Prop
 | is {a} (q:k (isNV a)):WCmp σ k .is a .none
 | isn {a} (q:k (!isNV a)):WCmp σ k .isNot a .none
 | eqI {x y} (q:k (decide (x=y))):WCmp σ k .eq (.int x) (.int y)
 | neI {x y} (q:k (!decide (x=y))):WCmp σ k .ne (.int x) (.int y)
 | ltI {x y} (q:k (decide (x < y))):WCmp σ k .lt (.int x) (.int y)
 | leI {x y} (q:k (decide (x≤y))):WCmp σ k .le (.int x) (.int y)
 | gtI {x y} (q:k (decide (y < x))):WCmp σ k .gt (.int x) (.int y)
 | geI {x y} (q:k (decide (y≤x))):WCmp σ k .ge (.int x) (.int y)
 | ltB {x y} (q:k (ltB x y)):WCmp σ k .lt (.bytes x) (.bytes y)
 | eqL {i j x} (h1:σ[i]? =some (.list x)) (h2:σ[j]? =some (.list x)) (h:x.all (V.pure 20)=true) (q:k true):WCmp σ k .eq (.obj i) (.obj j)
 | neL {i j x} (h1:σ[i]? =some (.list x)) (h2:σ[j]? =some (.list x)) (h:x.all (V.pure 20)=true) (q:k false):WCmp σ k .ne (.obj i) (.obj j)
 | eqP {a} (h:V.pure 20 a=true) (q:k true):WCmp σ k .eq a a
 | neP {a} (h:V.pure 20 a=true) (q:k false):WCmp σ k .ne a a
noncomputable abbrev wpCmp (op:COp) (a b:V) (σ:aN) (k:Bool→Prop):Prop:=WCmp σ k op a b
inductive WTruth (σ:aN) (k:Bool→Prop):V→Prop
 | bool {b} (q:k b):WTruth σ k (.bool b)
 | none (q:k false):WTruth σ k .none
 | bytes {b} (q:k (!b.isEmpty)):WTruth σ k (.bytes b)
 | obj {i vs} (h:σ[i]? =some (.list vs)) (q:k (!vs.isEmpty)):WTruth σ k (.obj i)
noncomputable abbrev l7 (v:V) (σ:aN) (k:Bool→Prop):Prop:=WTruth σ k v
inductive WAttr (n:At) (σ:aN) (Q:V→Prop):V→Prop
 | mk {i c kvs w} (h:σ[i]? =some (.inst c kvs)) (g:getA n kvs=some w) (q:Q w):WAttr n σ Q (.obj i)
noncomputable abbrev wpAttr (v:V) (n:At) (σ:aN) (Q:V→Prop):Prop:=WAttr n σ Q v
inductive WPutA (n:At) (w:V) (σ:aN) (k:aN→Prop):V→Prop
 | mk {i c kvs} (h:σ[i]? =some (.inst c kvs)) (l:kvs.length≤100) (q:k (σ.set i (.inst c (putA n w kvs)))):WPutA n w σ k (.obj i)
noncomputable abbrev wpPutA (v:V) (n:At) (w:V) (σ:aN) (k:aN→Prop):Prop:=WPutA n w σ k v
inductive WIdx (σ:aN) (Q:V→Prop):V→V→Prop
 | tup {vs k w} (h:nth vs k=some w) (q:Q w):WIdx σ Q (.tup vs) (.int k)
 | bytes {vs k w} (h:nth vs k=some w) (q:Q (.int (w:Nat))):WIdx σ Q (.bytes vs) (.int k)
 | obj {i vs k w} (g:σ[i]? =some (.list vs)) (h:nth vs k=some w) (q:Q w):WIdx σ Q (.obj i) (.int k)
noncomputable abbrev wpIdx (a b:V) (σ:aN) (Q:V→Prop):Prop:=WIdx σ Q a b
inductive WPutI (w:V) (σ:aN) (k:aN→Prop):V→V→Prop
 | mk {i vs} {j:Nat} (h:σ[i]? =some (.list vs)) (l:j < vs.length) (q:k (σ.set i (.list (vs.set j w)))):WPutI w σ k (.obj i) (.int j)
noncomputable abbrev wpPutI (a b w:V) (σ:aN) (k:aN→Prop):Prop:=WPutI w σ k a b
noncomputable def bndOf (n d:Nat):V→Option Nat
 | .none=>some d
 | .int k=>some (lS n k)
 | _=>.none
inductive WSlc (σ:aN) (Q:V→aN→Prop):V→V→V→Prop
 | from {vs} {a:Nat} (h:1≤a) (l:a≤vs.length) (q:Q (.tup (vs.drop a)) σ):WSlc σ Q (.tup vs) (.int a) .none
 | to {vs} {b:Nat} (l:b < vs.length) (q:Q (.tup (vs.take b)) σ):WSlc σ Q (.tup vs) .none (.int b)
 | bytes {vs lo hi l h} (hl:bndOf vs.length 0 lo=some l) (hh:bndOf vs.length vs.length hi=some h) (q:Q (.bytes (slice vs l h)) σ):WSlc σ Q (.bytes vs) lo hi
 | obj {i vs lo hi l h} (g:σ[i]? =some (.list vs)) (hl:bndOf vs.length 0 lo=some l) (hh:bndOf vs.length vs.length hi=some h) (q:Q (.obj σ.length) (σ++[.list (slice vs l h)])):WSlc σ Q (.obj i) lo hi
noncomputable abbrev wpSlc (a lo hi:V) (σ:aN) (Q:V→aN→Prop):Prop:=WSlc σ Q a lo hi
inductive WBlt (σ:aN) (Q:V→aN→Prop):Bt→List V→Prop
 | lenB {b} (q:Q (.int (b.length:Nat)) σ):WBlt σ Q .len [.bytes b]
 | lenT {b} (q:Q (.int (b.length:Nat)) σ):WBlt σ Q .len [.tup b]
 | lenL {i xs} (h:σ[i]? =some (.list xs)) (q:Q (.int (xs.length:Nat)) σ):WBlt σ Q .len [.obj i]
 | byB {b} (q:Q (.bytes b) σ):WBlt σ Q .bytes [.bytes b]
 | byA {i b} (h:σ[i]? =some (.barr b)) (q:Q (.bytes b) σ):WBlt σ Q .bytes [.obj i]
 | byL {i} {ns:List Int} (h:σ[i]? =some (.list (ns.map V.int))) (l:∀n∈ns,0≤n∧n < 256) (q:Q (.bytes (ns.map Int.toNat)) σ):WBlt σ Q .bytes [.obj i]
 | tup {i xs} (h:σ[i]? =some (.list xs)) (q:Q (.tup xs) σ):WBlt σ Q .tuple [.obj i]
 | srt {i} {ns:List Int} (h:σ[i]? =some (.list (ns.map V.int))) (l:ns.length≤16) (q:Q (.obj σ.length) (σ++[.list ((ns.foldl (fun l a=>jE a l) []).map V.int)])):WBlt σ Q .sorted [.obj i]
 | min {a b} (q:Q (.int (min a b)) σ):WBlt σ Q .min [.int a,.int b]
 | barr (q:Q (.obj σ.length) (σ++[.barr []])):WBlt σ Q .bytearray []
noncomputable abbrev wpBlt (f:Bt) (vs:List V) (σ:aN) (Q:V→aN→Prop):Prop:=WBlt σ Q f vs
noncomputable def itemsOf:V→Option (List V)
 | .tup vs=>some vs
 | .bytes b=>some (b.map fun (n:Nat)=>V.int (n:Int))
 | .rng n=>some ((List.range n.toNat).map fun i=>V.int (i:Nat))
 | _=>.none
noncomputable def bindT (m:Lo) (is:List Nat) (one:Bool) (v:V):Option Lo:=
 match one,v with
 | true,v=>(match is with
  | [i]=>some (jY m i v)
  | _=>.none)
 | false,.tup vs=>if vs.length=is.length then some (setVs m is vs) else .none
 | _,_=>.none
noncomputable def jD (iv:V) (σ:aN):Option (List V):=match iv with
 | .obj i=>(match σ[i]? with
  | some (.list vs)=>some vs
  | _=>.none)
 | iv=>itemsOf iv
inductive ItN (o:Option (List V)) (k:Nat) (D:Prop) (S:V→Prop):Prop
 | mk (vs:List V) (h:o=some vs) (d:vs[k]? =.none→D) (s:∀v,vs[k]? =some v→S v)
noncomputable abbrev lpK (R:Lo→aN→Prop) (K:Fl→Lo→aN→Prop) (fl:Fl) (m:Lo) (σ:aN):Prop:=match fl with
 | .next=>R m σ
 | .brk=>K .next m σ
 | .ret w=>K (.ret w) m σ
noncomputable abbrev seqR (R:Lo→aN→Prop) (K:Fl→Lo→aN→Prop) (fl:Fl) (m:Lo) (σ:aN):Prop:=match fl with
 | .next=>R m σ
 | .brk=>K .brk m σ
 | .ret v=>K (.ret v) m σ
inductive BdR {α:Type} (m:Lo) (is:List Nat) (one:Bool) (run:Lo→aN→α→Prop) (v:V) (σ:aN) (K:α):Prop
 | mk (m':Lo) (h:bindT m is one v=some m') (q:run m' σ K)
noncomputable def forN (iv:V) (is:List Nat) (one:Bool) (run:Lo→aN→(Fl→Lo→aN→Prop)→Prop) (Q:Fl→Lo→aN→Prop):Nat→Nat→Lo→aN→Prop
 | 0,_,_,_=>False
 | n+1,k,m,σ=>ItN (jD iv σ) k (Q .next m σ) fun v=>BdR m is one run v σ (lpK (forN iv is one run Q n (k+1)) Q)
noncomputable abbrev adC (acc:List V) (r:Option V):List V:=match r with
 | some w=>acc++[w]
 | .none=>acc
noncomputable def blkLo (m:Lo) (tg:Nat) (caps:List Nat):Lo:=List.replicate (max tg 1) .none++caps.map (cD m)
noncomputable def compN (iv:V) (m₀:Lo) (tg:Nat) (run:Lo→aN→(Option V→aN→Prop)→Prop) (Q:List V→aN→Prop):Nat→Nat→List V→aN→Prop
 | 0,_,_,_=>False
 | n+1,k,acc,σ=>ItN (jD iv σ) k (Q acc σ) fun v=>BdR m₀ (List.range (max tg 1)) (tg==0) run v σ fun r σ=>compN iv m₀ tg run Q n (k+1) (adC acc r) σ
noncomputable abbrev finC (Q:V→aN→Prop) (acc:List V) (σ:aN):Prop:=acc.length≤lim∧Q (.obj σ.length) (σ++[.list acc])
noncomputable def ifQ (A B:aN→Prop) (b:Bool) (σ:aN):Prop:=match b with
 | true=>A σ
 | false=>B σ
noncomputable def whileN (test:Lo→aN→(Bool→aN→Prop)→Prop) (body:Lo→aN→(Fl→Lo→aN→Prop)→Prop) (Q:Fl→Lo→aN→Prop):Nat→Lo→aN→Prop
 | 0,_,_=>False
 | n+1,m,σ=>test m σ (ifQ (body m · (lpK (whileN test body Q n) Q)) (Q .next m))
noncomputable def tupQ (n:Nat) (Q:List V→Prop):V→Prop
 | .tup vs=>vs.length=n∧Q vs
 | _=>False
noncomputable abbrev noX:Ex→aN→Prop:=fun _ _=>False
noncomputable abbrev exX (X:Ex→Lo→aN→Prop) (m:Lo):Ex→aN→Prop:=fun x σ=>X x m σ
noncomputable abbrev newQ (Q:V→aN→Prop) (n:Nat) (v:V) (σ:aN):Prop:=v=.none∧Q (.obj n) σ
noncomputable abbrev qLs (Q:V→aN→Prop) (vs:List V) (σ:aN):Prop:=vs.length≤lim∧Q (.obj σ.length) (σ++[.list vs])
noncomputable abbrev qTu (Q:V→aN→Prop) (vs:List V) (σ:aN):Prop:=vs.length≤lim∧Q (.tup vs) σ
noncomputable def globV (k:Nat):Option V:=(globTabS[k]?).map fun y=>match y.2 with
 | .int i=>.int i
 | .bytes b=>.bytes b
noncomputable abbrev Wp:=Fn→List V→aN→(V→aN→Prop)→(Ex→aN→Prop)→Prop
noncomputable def intQ (Q:Int→Prop):V→Prop
 | .int i=>Q i
 | _=>False
noncomputable def rgL (Q:V→aN→Prop):List V→aN→Prop
 | [v],σ=>intQ (fun n=>(0≤n∧n≤lim)∧Q (.rng n) σ) v
 | _,_=>False
inductive LApp (i:Nat) (Q:V→aN→Prop) (σ:aN):List V→Prop
 | mk {xs:List V} {v:V} (h:σ[i]? =some (.list xs)) (l:xs.length < lim) (q:Q .none (σ.set i (.list (xs++[v])))):LApp i Q σ [v]
inductive BApp (i:Nat) (Q:V→aN→Prop) (σ:aN):List V→Prop
 | mk {xs:List Nat} {v:Nat} (h:σ[i]? =some (.barr xs)) (l:xs.length < lim) (z:v < 256) (q:Q .none (σ.set i (.barr (xs++[v])))):BApp i Q σ [.int v]
inductive BExt (i:Nat) (Q:V→aN→Prop) (σ:aN):List V→Prop
 | mk {xs v:List Nat} (h:σ[i]? =some (.barr xs)) (l:xs.length+v.length≤lim) (q:Q .none (σ.set i (.barr (xs++v)))):BExt i Q σ [.bytes v]
inductive WMeth (W:Wp) (σ:aN) (A:(List V→aN→Prop)→Prop) (Q:V→aN→Prop) (X:Ex→aN→Prop):Mt→V→Prop
 | own {n:Mt} {i:Nat} {c:Cls} {kvs:List (At×V)} {f:Fn} (h:σ[i]? =some (.inst c kvs)) (hf:methOf c n=some f) (q:A fun vs σ=>W f (.obj i::vs) σ Q X):WMeth W σ A Q X n (.obj i)
 | app {i:Nat} {xs:List V} (h:σ[i]? =some (.list xs)) (q:A fun vs σ=>LApp i Q σ vs):WMeth W σ A Q X .append (.obj i)
 | bapp {i:Nat} {xs:List Nat} (h:σ[i]? =some (.barr xs)) (q:A fun vs σ=>BApp i Q σ vs):WMeth W σ A Q X .append (.obj i)
 | bext {i:Nat} {xs:List Nat} (h:σ[i]? =some (.barr xs)) (q:A fun vs σ=>BExt i Q σ vs):WMeth W σ A Q X .extend (.obj i)
mutual
noncomputable def wpE (W:Wp) (e:M) (m:Lo) (σ:aN) (Q:V→aN→Prop) (X:Ex→aN→Prop):Prop:=match e with
 | .cN=>Q .none σ
 | .cB b=>Q (.bool b) σ
 | .cI i=>Q (.int i) σ
 | .cS=>Q .str σ
 | .cY b=>Q (.bytes b) σ
 | .glob k=>optP (globV k) fun v=>Q v σ
 | .loc i=>optP (cD m i) fun v=>Q v σ
 | .bin op a b=>wpE W a m σ (fun x σ=>wpE W b m σ (fun y σ=>mQ op x y σ Q) X) X
 | .neg a=>wpE W a m σ (fun x σ=>intQ (fun i=>Q (.int (-i)) σ) x) X
 | .cmp op a b=>wpE W a m σ (fun x σ=>wpE W b m σ (fun y σ=>wpCmp op x y σ fun b=>Q (.bool b) σ) X) X
 | .ife c a b=>wpT W c m σ (fun K=>wpE W c m σ K X) (ifQ (wpE W a m · Q X) (wpE W b m · Q X)) X
 | .attr a n=>wpE W a m σ (fun x σ=>wpAttr x n σ fun w=>Q w σ) X
 | .idx a b=>wpE W a m σ (fun x σ=>wpE W b m σ (fun y σ=>wpIdx x y σ fun w=>Q w σ) X) X
 | .slc a lo hi=>wpE W a m σ (fun x σ=>wpO W lo m σ (fun l σ=>wpO W hi m σ (fun h σ=>wpSlc x l h σ Q) X) X) X
 | .tup l=>wpL W l m σ (qTu Q) X
 | .lst l=>wpL W l m σ (qLs Q) X
 | .call f l=>wpL W l m σ (fun vs σ=>W f vs σ Q X) X
 | .new c l=>wpL W l m σ (fun vs σ=>W c.init (.obj σ.length::vs) (σ++[.inst c []]) (newQ Q σ.length) noX) X
 | .meth o n l=>wpE W o m σ (fun ov σ=>WMeth W σ (fun R=>wpL W l m σ R X) Q X n ov) X
 | .blt f l=>wpL W l m σ (fun vs σ=>wpBlt f vs σ Q) X
 | .comp elt tg it ifs caps=>wpI W it m σ (fun K=>wpE W it m σ K X) (fun iv σ=>
   ∃n,compN iv (blkLo m tg caps) tg (fun m' σ K=>wpA W ifs m' σ (ifQ (wpE W elt m' · (fun w σ=>K (some w) σ) noX) (K .none)) noX) (finC Q) n 0 [] σ) X
 | .fstr l=>wpF W l m σ (fun σ=>Q .str σ) X
 | _=>False
noncomputable def wpI (W:Wp) (e:M) (m:Lo) (σ:aN) (whole:(V→aN→Prop)→Prop) (Q:V→aN→Prop) (X:Ex→aN→Prop):Prop:=match e with
 | .blt f l=>(match f with
  | .range=>wpL W l m σ (rgL Q) X
  | _=>whole Q)
 | _=>whole Q
noncomputable def wpO (W:Wp) (e:M) (m:Lo) (σ:aN) (Q:V→aN→Prop) (X:Ex→aN→Prop):Prop:=match e with
 | .nil=>Q .none σ
 | .cI i=>Q (.int i) σ
 | .loc i=>optP (cD m i) fun v=>Q v σ
 | .neg a=>wpE W a m σ (fun x σ=>intQ (fun i=>Q (.int (-i)) σ) x) X
 | .bin op a b=>wpE W a m σ (fun x σ=>wpE W b m σ (fun y σ=>mQ op x y σ Q) X) X
 | .blt f l=>wpL W l m σ (fun vs σ=>wpBlt f vs σ Q) X
 | _=>False
noncomputable def wpL (W:Wp) (e:M) (m:Lo) (σ:aN) (Q:List V→aN→Prop) (X:Ex→aN→Prop):Prop:=match e with
 | .nil=>Q [] σ
 | .cons a l=>wpE W a m σ (fun v σ=>wpL W l m σ (fun vs σ=>Q (v::vs) σ) X) X
 | _=>False
noncomputable def wpF (W:Wp) (e:M) (m:Lo) (σ:aN) (Q:aN→Prop) (X:Ex→aN→Prop):Prop:=match e with
 | .nil=>Q σ
 | .cons a l=>(match a with
  | .cS=>wpF W l m σ Q X
  | a=>wpE W a m σ (fun v σ=>intQ (fun i=>i.natAbs < 2 ^ 128∧wpF W l m σ Q X) v) X)
 | _=>False
noncomputable def wpT (W:Wp) (e:M) (m:Lo) (σ:aN) (whole:(V→aN→Prop)→Prop) (k:Bool→aN→Prop) (X:Ex→aN→Prop):Prop:=match e with
 | .not a=>wpT W a m σ (fun K=>wpE W a m σ K X) (fun b σ=>k (!b) σ) X
 | .and a b=>wpT W a m σ (fun K=>wpE W a m σ K X) (ifQ (fun σ=>wpT W b m σ (fun K=>wpE W b m σ K X) k X) (k false)) X
 | .or a b=>wpT W a m σ (fun K=>wpE W a m σ K X) (ifQ (k true) (fun σ=>wpT W b m σ (fun K=>wpE W b m σ K X) k X)) X
 | .cmp op a b=>wpE W a m σ (fun x σ=>wpE W b m σ (fun y σ=>wpCmp op x y σ fun b=>k b σ) X) X
 | .ife ..=>False
 | _=>whole fun v σ=>l7 v σ fun b=>k b σ
noncomputable def wpA (W:Wp) (e:M) (m:Lo) (σ:aN) (k:Bool→aN→Prop) (X:Ex→aN→Prop):Prop:=match e with
 | .nil=>k true σ
 | .cons a l=>(match l with
  | .nil=>wpT W a m σ (fun K=>wpE W a m σ K X) k X
  | _=>False)
 | _=>False
end
mutual
noncomputable def wpS (W:Wp) (e:M) (m:Lo) (σ:aN) (Q:Fl→Lo→aN→Prop) (X:Ex→Lo→aN→Prop):Prop:=match e with
 | .sE e=>wpE W e m σ (fun _ σ=>Q .next m σ) (exX X m)
 | .sA i e=>wpE W e m σ (fun v σ=>Q .next (jY m i v) σ) (exX X m)
 | .sT is e=>wpE W e m σ (fun v σ=>tupQ is.length (fun vs=>Q .next (setVs m is vs) σ) v) (exX X m)
 | .sAt o n e=>wpE W e m σ (fun v σ=>wpE W o m σ (fun ov σ=>wpPutA ov n v σ (Q .next m)) (exX X m)) (exX X m)
 | .sIx o i e=>wpE W e m σ (fun v σ=>wpE W o m σ (fun ov σ=>wpE W i m σ (fun iv σ=>wpPutI ov iv v σ (Q .next m)) (exX X m)) (exX X m)) (exX X m)
 | .sG i op e=>optP (cD m i) fun o=>intQ (fun old=>wpE W e m σ (fun v σ=>intQ (fun w=>mQ op (.int old) (.int w) σ fun r σ=>Q .next (jY m i r) σ) v) (exX X m)) o
 | .sGA o n op e=>wpE W o m σ (fun ov σ=>wpAttr ov n σ fun old=>wpE W e m σ (fun v σ=>intQ (fun x=>intQ (fun w=>mQ op (.int x) (.int w) σ fun r σ=>wpPutA ov n r σ (Q .next m)) v) old) (exX X m)) (exX X m)
 | .sIf c t e=>wpT W c m σ (fun K=>wpE W c m σ K (exX X m)) (ifQ (wpSs W t m · Q X) (wpSs W e m · Q X)) (exX X m)
 | .sW c b=>∃n,whileN (fun m σ k=>wpT W c m σ (fun K=>wpE W c m σ K (exX X m)) k (exX X m)) (fun m σ K=>wpSs W b m σ K X) Q n m σ
 | .sF is one it b=>wpI W it m σ (fun K=>wpE W it m σ K (exX X m)) (fun iv σ=>∃n,forN iv is one (fun m σ K=>wpSs W b m σ K X) Q n 0 m σ) (exX X m)
 | .sR e=>wpE W e m σ (fun v σ=>Q (.ret v) m σ) (exX X m)
 | .sR0=>Q (.ret .none) m σ
 | .sX x l=>wpL W l m σ (fun vs σ=>vs.length≤100∧X x m σ) (exX X m)
 | .sTry b x h=>wpSs W b m σ Q fun y m σ=>ifQ (wpSs W h m · Q X) (X y m) (pC y x) σ
 | .sP=>Q .next m σ
 | .sBrk=>Q .brk m σ
 | _=>False
noncomputable def wpSs (W:Wp) (e:M) (m:Lo) (σ:aN) (Q:Fl→Lo→aN→Prop) (X:Ex→Lo→aN→Prop):Prop:=match e with
 | .nil=>Q .next m σ
 | .cons s r=>wpS W s m σ (seqR (wpSs W r · · Q X) Q) X
 | _=>False
end
noncomputable abbrev mV (Q:V→aN→Prop) (fl:Fl) (_:Lo) (σ:aN):Prop:=match fl with
 | .ret v=>Q v σ
 | .next=>Q .none σ
 | .brk=>False
noncomputable abbrev exK (X:Ex→aN→Prop):Ex→Lo→aN→Prop:=fun x _ σ=>X x σ
noncomputable def Def.start (D:Def) (args:List V):Option Lo:=
 if args.length≤D.params∧D.params≤args.length+D.dflt.length then
  some (args.map some++(D.dflt.drop (args.length+D.dflt.length - D.params)).map (fun i=>some (V.int i))++List.replicate D.extra .none)
 else .none
noncomputable def wpCall:Nat→Wp
 | 0,_,_,_,_,_=>False
 | d+1,f,args,σ,Q,X=>∃m,f.info.start args=some m∧wpSs (wpCall d) f.info.body m σ (mV Q) (exK X)
end Internal
end
section
namespace Internal
theorem optP_ex {α:Type} {P:α→Prop}:∀{o:Option α},optP o P→∃v,o=some v∧P v
 | some v,h=>⟨v,rfl,h⟩
open PySem PySem.W PySem.Calls PyProof.Rows
theorem beq_of_sEq {x y:Str} (h:sEq x y=true):(x==y)=true:=by rw [sEq_eq h];simp
theorem seqL_refl (x:List Nat):seqL x x=true:=by
 induction x with
 | nil=>rfl
 | cons a x ih=>exact fD.mpr ⟨Nat.beq_refl a,ih⟩
theorem sEq_refl (x:Str):sEq x x=true:=seqL_refl _
theorem sEq_iff {x y:Str}:sEq x y=true ↔ x=y:=⟨sEq_eq,fun h=>h▸sEq_refl x⟩
theorem lG {α:Type} (x:Str) (l:List (Str×α)):look x l=l.lookup x:=by
 induction l with
 | nil=>rfl
 | cons y r ih=>
  refine cond_of (P:=(·=List.lookup x (y::r))) (fun h=>?_) fun h=>?_
  ·rw [cA,beq_of_sEq h]
  ·rw [cA,show (x==y.1)=false from beq_eq_false_iff_ne.mpr fun e=>pO (h.symm.trans (sEq_iff.mpr e))]
   exact ih
theorem idxOf_get {x:Str} {l:List Str}:∀{i:Nat},idxOf x l=some i→l[i]? =some x:=by
 induction l with
 | nil=>exact fun h=>nomatch h
 | cons y r ih=>
  intro i h
  rcases cond_ind (P:=(·=some i)) h with q | q
  ·rw [←Option.some.inj q.2,sEq_eq q.1];rfl
  ·obtain ⟨j,hj,rfl⟩:=fK.mp q.2
   exact ih hj
noncomputable abbrev dI:=List (Addr×Addr)
noncomputable def nB (ρ:dI) (b:Addr):Prop:=∃p∈ρ,b=p.1∨b=p.2
noncomputable def IsRng (h:Heap) (a:Addr) (n:Int):Prop:=∃t₁ t₂ t₃:Tok,h.get? a=some {cls:=.type "range",data:=.fields #[.int 0 t₁,.int n t₂,.int 1 t₃]}
mutual
inductive VR (h:Heap) (ρ:dI):Value→V→Prop
 | none:VR h ρ .none .none
 | bool (b:Bool):VR h ρ (.bool b) (.bool b)
 | int (i:Int) (t:Tok):VR h ρ (.int i t) (.int i)
 | str (s:Str) (t:Tok):VR h ρ (.str s t) .str
 | bytes (b:Array UInt8) (t:Tok) (z:b.size≤lim):VR h ρ (.bytes b t) (.bytes (b.toList.map (·.toNat)))
 | tup {a:Addr} {xs:Array Value} {n:Nat} {vs:List V}:h.get? a=some {cls:=.type "tuple",data:=.seq xs n}→xs.size≤lim→gQ h ρ xs.toList vs→VR h ρ (.ref a) (.tup vs)
 | obj {a d:Addr} {i:Nat}:ρ[i]? =some (a,d)→VR h ρ (.ref a) (.obj i)
inductive gQ (h:Heap) (ρ:dI):List Value→List V→Prop
 | nil:gQ h ρ [] []
 | cons {x:Value} {v:V} {xs:List Value} {vs:List V}:VR h ρ x v→gQ h ρ xs vs→gQ h ρ (x::xs) (v::vs)
end
inductive ERs (h:Heap) (ρ:dI):List DictEntry→List (At×V)→Prop
 | nil:ERs h ρ [] []
 | cons {hs:Int} {t:Tok} {x:Value} {n:At} {v:V} {es:List DictEntry} {kvs:List (At×V)}:VR h ρ x v→ERs h ρ es kvs→ERs h ρ (⟨hs,.str n.name t,x⟩::es) ((n,v)::kvs)
structure Cx where
 prog:Program
 w:World
 h₀:Heap
 K:Frag
 os:OsState
 mg:Str→Option Value
 mb:Str→Option Value
 clsA:Cls→Addr
 fnA:Fn→Addr
 exA:Ex→Addr
noncomputable def AOR (C:Cx) (h:Heap) (ρ:dI) (p:Addr×Addr):AO→Prop
 | .list vs=>p.2=p.1∧∃(xs:Array Value) (n:Nat),h.get? p.1=some {cls:=.type "list",data:=.seq xs n}∧xs.size≤lim∧gQ h ρ xs.toList vs
 | .barr b=>p.2=p.1∧∃arr:Array UInt8,h.get? p.1=some {cls:=.type "bytearray",data:=.bytearray arr 0}∧arr.size≤lim∧arr.toList.map (·.toNat)=b
 | .inst c kvs=>∃(es:List DictEntry) (n:Nat),h.get? p.1=some (instObj (C.clsA c) p.2)∧h.get? p.2=some (dictOf es n)∧ERs h ρ es kvs
noncomputable def topN (h:Heap):Nat→Nat
 | 0=>0
 | n+1=>cond (h.get? n).isSome (n+1) (topN h n)
noncomputable def top (h:Heap):Nat:=topN h h.objs.size
theorem topN_le (h:Heap) (n:Nat):topN h n≤n:=by
 induction n with
 | zero=>exact bD _
 | succ n ih=>exact cond_of (P:=(·≤n+1)) (fun _=>bD _) fun _=>i6 ih
theorem lt_topN {h:Heap} {b:Addr} {o:Obj} (e:h.get? b=some o) (n:Nat):b < n→b < topN h n:=by
 induction n with
 | zero=>exact fun l=>nomatch l
 | succ n ih=>
  refine fun l=>cond_of (P:=(b < ·)) (fun _=>l) fun q=>(Nat.lt_succ_iff_lt_or_eq.mp l).elim ih fun l=>?_
  rw [←l,e] at q;exact bfE q.symm
theorem topN_live (h:Heap) (n:Nat):topN h n=0∨∃b o,topN h n=b+1∧h.get? b=some o:=by
 induction n with
 | zero=>exact .inl rfl
 | succ n ih=>exact cond_of (P:=fun x=>x=0∨∃b o,x=b+1∧h.get? b=some o) (fun q=>(kH.mp q).elim fun o q=>.inr ⟨n,o,rfl,q⟩) fun _=>ih
theorem e9 {h:Heap} {b:Addr} {o:Obj} (e:h.get? b=some o):b < top h:=lt_topN e _ (Heap.lt_size e)
theorem eB (h:Heap):top h≤h.objs.size:=topN_le h _
theorem mS {h h':Heap} (k:∀b o,h.get? b=some o→∃o',h'.get? b=some o'):top h≤top h':=by
 rcases topN_live h h.objs.size with q | ⟨b,o,q,e⟩
 ·show topN h _≤_;rw [q];exact cV _
 ·obtain ⟨o',e'⟩:=k b o e
  show topN h _≤_;rw [q];exact e9 e'
noncomputable def oM (h h':Heap):Prop:=∀b o,h.get? b=some o→∃o',h'.get? b=some o'
theorem oM.trans {h h' h'':Heap} (x:oM h h') (y:oM h' h''):oM h h'':=fun b o e=>let ⟨o',e'⟩:=x b o e;y b o' e'
theorem oM.none {h h':Heap} (x:oM h h') {b:Addr} (e:h'.get? b=none):h.get? b=none:=by
 cases q:h.get? b with
 | none=>rfl
 | some o=>obtain ⟨o',e'⟩:=x b o q;rw [e] at e';cases e'
structure Kp (ρ:dI) (F X:List Addr) (h h':Heap):Prop where
 live:oM h h'
 keep:∀b o,h.get? b=some o→¬nB ρ b→b∉X→b∉F→h'.get? b=some o
 slot:∀b o,h.get? b=some o→¬nB ρ b→b∉X→b∈F→∃sl,h'.get? b=some {o with slots:=sl}
theorem Kp.size {ρ:dI} {F X:List Addr} {h h':Heap} (k:Kp ρ F X h h'):top h≤top h':=mS k.live
theorem Kp.refl (ρ:dI) (F X:List Addr) (h:Heap):Kp ρ F X h h:=⟨fun _ o e=>⟨o,e⟩,fun _ _ e _ _ _=>e,fun _ o e _ _ _=>⟨o.slots,e⟩⟩
theorem Kp.of_keeps {ρ:dI} {F X:List Addr} {h h':Heap} (k:∀b o,h.get? b=some o→h'.get? b=some o):Kp ρ F X h h':=
 ⟨fun b o e=>⟨o,k b o e⟩,fun b o e _ _ _=>k b o e,fun b o e _ _ _=>⟨o.slots,k b o e⟩⟩
noncomputable def fO (ρ ρ':dI) (h:Heap):Prop:=∃r,ρ'=ρ++r∧∀p∈r,top h≤p.1∧top h≤p.2
theorem fO.refl (ρ:dI) (h:Heap):fO ρ ρ h:=⟨[],by simp,fun _ h=>nomatch h⟩
theorem fO.trans {ρ ρ' ρ'':dI} {h h':Heap} (x:fO ρ ρ' h) (y:fO ρ' ρ'' h') (z:top h≤top h'):fO ρ ρ'' h:=by
 obtain ⟨r,rfl,a⟩:=x
 obtain ⟨r',rfl,b⟩:=y
 refine ⟨r++r',by simp,fun p hp=>?_⟩
 rcases dS.mp hp with hp | hp
 ·exact a p hp
 ·exact ⟨aA z (b p hp).1,aA z (b p hp).2⟩
theorem fO.get {ρ ρ':dI} {h:Heap} (x:fO ρ ρ' h) {i:Nat} {p:Addr×Addr} (e:ρ[i]? =some p):ρ'[i]? =some p:=by
 obtain ⟨r,rfl,_⟩:=x
 rw [bT (aX.mp e).1];exact e
theorem nB.grow {ρ ρ':dI} {h:Heap} (x:fO ρ ρ' h) {b:Addr} (lt:b < top h) (o:nB ρ' b):nB ρ b:=by
 obtain ⟨r,rfl,a⟩:=x
 obtain ⟨p,hp,hb⟩:=o
 rcases dS.mp hp with hp | hp
 ·exact ⟨p,hp,hb⟩
 ·have:=a p hp
  rcases hb with rfl | rfl
  ·exact absurd lt (bK.mpr this.1)
  ·exact absurd lt (bK.mpr this.2)
theorem nB.mono {ρ ρ':dI} {h:Heap} (x:fO ρ ρ' h) {b:Addr} (o:nB ρ b):nB ρ' b:=by
 obtain ⟨r,rfl,_⟩:=x
 obtain ⟨p,hp,hb⟩:=o
 exact ⟨p,dQ _ hp,hb⟩
theorem Kp.trans {ρ ρ':dI} {F X:List Addr} {h h' h'':Heap} (x:Kp ρ F X h h') (g:fO ρ ρ' h) (y:Kp ρ' F X h' h''):Kp ρ F X h h'':=by
 refine ⟨x.live.trans y.live,fun b o e n nx nf=>?_,fun b o e n nx nf=>?_⟩
 ·exact y.keep b o (x.keep b o e n nx nf) (fun q=>n (q.grow g (e9 e))) nx nf
 ·obtain ⟨sl,e₁⟩:=x.slot b o e n nx nf
  obtain ⟨sl',e₂⟩:=y.slot b _ e₁ (fun q=>n (q.grow g (e9 e))) nx nf
  exact ⟨sl',e₂⟩
theorem Kp.monoX {ρ:dI} {F X X':List Addr} {h h':Heap} (x:Kp ρ F X h h') (hX:∀b∈X,b∈X'):Kp ρ F X' h h':=
 ⟨x.live,fun b o e n nx nf=>x.keep b o e n (fun q=>nx (hX b q)) nf,fun b o e n nx nf=>x.slot b o e n (fun q=>nx (hX b q)) nf⟩
theorem Kp.get {ρ:dI} {F X:List Addr} {h h':Heap} (x:Kp ρ F X h h') {b:Addr} {o:Obj} (e:h.get? b=some o) (n:¬nB ρ b) (nx:b∉X) (nf:b∉F):h'.get? b=some o:=x.keep b o e n nx nf
noncomputable def Still (o:Obj):Prop:=o.cls=.type "tuple" ∧∃xs n,o.data=.seq xs n
noncomputable def Imm (h h':Heap):Prop:=∀b o,h.get? b=some o→Still o→h'.get? b=some o
theorem VR.mono {h h':Heap} {ρ ρ':dI} (k:Imm h h') (g:∀(i:Nat) p,ρ[i]? =some p→ρ'[i]? =some p) {x:Value} {v:V} (r:VR h ρ x v):VR h' ρ' x v:=
 r.rec (motive_1:=fun x v _=>VR h' ρ' x v) (motive_2:=fun x v _=>gQ h' ρ' x v) .none .bool .int .str .bytes (fun e z _ l=>.tup (k _ _ e ⟨rfl,_,_,rfl⟩) z l) (fun e=>.obj (g _ _ e)) .nil fun _ _=>.cons
theorem gQ.ind {h:Heap} {ρ:dI} {P:List Value→List V→Prop} (n:P [] []) (c:∀{x v xs vs},VR h ρ x v→gQ h ρ xs vs→P xs vs→P (x::xs) (v::vs)) {xs:List Value} {vs:List V} (r:gQ h ρ xs vs):P xs vs:=
 r.rec (motive_1:=fun _ _ _=>True) (motive_2:=fun x v _=>P x v) ⟨⟩ (fun _=>⟨⟩) (fun _ _=>⟨⟩) (fun _ _=>⟨⟩) (fun _ _ _=>⟨⟩) (fun _ _ _ _=>⟨⟩) (fun _=>⟨⟩) n fun a l _=>c a l
theorem gQ.mono {h h':Heap} {ρ ρ':dI} (k:Imm h h') (g:∀(i:Nat) p,ρ[i]? =some p→ρ'[i]? =some p) {x:List Value} {v:List V} (r:gQ h ρ x v):gQ h' ρ' x v:=r.ind .nil fun a _=>.cons (a.mono k g)
theorem ERs.mono {h h':Heap} {ρ ρ':dI} (k:Imm h h') (g:∀(i:Nat) p,ρ[i]? =some p→ρ'[i]? =some p) {x:List DictEntry} {v:List (At×V)} (r:ERs h ρ x v):ERs h' ρ' x v:=by
 induction r with
 | nil=>exact .nil
 | cons a _ ih=>exact .cons (a.mono k g) ih
theorem gQ.length {h:Heap} {ρ:dI} {x:List Value} {v:List V} (r:gQ h ρ x v):x.length=v.length:=r.ind (P:=fun x v=>x.length=v.length) rfl fun _ _=>congrArg Nat.succ
theorem gQ.append {h:Heap} {ρ:dI} {x y:List Value} {v u:List V} (r:gQ h ρ x v) (q:gQ h ρ y u):gQ h ρ (x++y) (v++u):=r.ind (P:=fun x v=>gQ h ρ (x++y) (v++u)) q fun a _=>.cons a
theorem gQ.get {h:Heap} {ρ:dI} {x:List Value} {v:List V} (r:gQ h ρ x v) {i:Nat} {w:V}:v[i]? =some w→∃u,x[i]? =some u∧VR h ρ u w:=
 r.ind (P:=fun x v=>∀i,v[i]? =some w→∃u,x[i]? =some u∧VR h ρ u w) (fun _ (e:Option.none=some w)=>nomatch e) (fun a _ ih i=>Nat.casesOn i (fun e=>⟨_,rfl,Option.some.inj e▸a⟩) ih) i
theorem gQ.drop {h:Heap} {ρ:dI} (n:Nat):∀{x:List Value} {v:List V},gQ h ρ x v→gQ h ρ (x.drop n) (v.drop n):=by
 induction n with
 | zero=>exact id
 | succ n ih=>exact fun r=>r.ind (P:=fun x v=>gQ h ρ (x.drop (n+1)) (v.drop (n+1))) .nil fun _ l _=>ih l
theorem gQ.take {h:Heap} {ρ:dI} (n:Nat):∀{x:List Value} {v:List V},gQ h ρ x v→gQ h ρ (x.take n) (v.take n):=by
 induction n with
 | zero=>exact fun _=>.nil
 | succ n ih=>exact fun r=>r.ind (P:=fun x v=>gQ h ρ (x.take (n+1)) (v.take (n+1))) .nil fun a l _=>.cons a (ih l)
theorem gQ.set {h:Heap} {ρ:dI} {u:Value} {w:V} (r:VR h ρ u w) {x:List Value} {v:List V} (i:Nat) (q:gQ h ρ x v):gQ h ρ (x.set i u) (v.set i w):=
 q.ind (P:=fun x v=>∀i,gQ h ρ (x.set i u) (v.set i w)) (fun _=>.nil) (fun a l ih i=>Nat.casesOn i (.cons r l) fun i=>.cons a (ih i)) i
structure Fx where
 A:Around
 env:Env
 fr:List Env
 vars:List Str
noncomputable def Fx.F (Γ:Fx):List Addr:=Γ.fr.filterMap (·.frame)
noncomputable def Fx.X (Γ:Fx):List Addr:=Γ.env.locals::Γ.env.cells.map (·.2)
structure Room (A:Around) (d:Nat):Prop where
 depth:A.depth+4*d+20 < recursionLimit
 units:A.units+20*d+100 < cLine
structure Fx.Wf (Γ:Fx) (d:Nat):Prop where
 frames:Γ.A.frames=some Γ.fr
 top:∃t r L,Γ.fr=t::r∧t.frame=some L∧Γ.env.frame=some L
 kind:Γ.env.scope.kind=.function
 glob:Γ.env.globals=mainGlobals
 blt:Γ.env.builtins=builtinsNs
 handled:Γ.A.handled=none
 room:Room Γ.A d
noncomputable def isVarK (k:Option NameKind):Prop:=k=some .local∨k=some .cell∨k=some .free
theorem isGlob_lk {sc:Scope} {x:Str} (h:gC sc x=true):sc.names.lookup x=some .globalImplicit:=lG x _▸of_decide_eq_true (aL h)
theorem or_dec {p q:Prop} [Decidable p] [Decidable q] (h:(decide p || decide q)=true):p∨q:=(gX.mp h).imp of_decide_eq_true of_decide_eq_true
theorem isVar_lk {sc:Scope} {x:Str} (h:isVar sc x=true):isVarK (sc.names.lookup x):=lG x _▸(gX.mp (aL h)).imp of_decide_eq_true or_dec
structure Locs (C:Cx) (Γ:Fx) (h:Heap) (ρ:dI) (m:Lo):Prop where
 len:m.length=Γ.vars.length
 ns:∃nm,h.Ns Γ.env.locals nm∧∀i x v,Γ.vars[i]? =some x→cD m i=some v→Γ.env.kindOf x=some .local→∃u,nm x=some u∧VR h ρ u v
 cell:∀i x,Γ.vars[i]? =some x→(Γ.env.kindOf x=some .cell∨Γ.env.kindOf x=some .free)→∃c o w,Γ.env.cells.lookup x=some c∧h.get? c=some o∧o.data=.cell w∧∀v,cD m i=some v→∃u,w=some u∧VR h ρ u v
structure cO (C:Cx) (Γ:Fx) (ρ:dI) (σ:aN) (m:Lo) (s:Shared):Prop where
 base:∀b o,C.h₀.get? b=some o→s.heap.get? b=some o
 len:ρ.length=σ.length
 obj:∀(i:Nat) p ao,ρ[i]? =some p→σ[i]? =some ao→AOR C s.heap ρ p ao
 dis:∀(i j:Nat) p q,ρ[i]? =some p→ρ[j]? =some q→i≠j→p.1≠q.1∧p.1≠q.2∧p.2≠q.1∧p.2≠q.2
 own0:∀p∈ρ,top C.h₀≤p.1∧top C.h₀≤p.2∧p.1 < top s.heap∧p.2 < top s.heap
 frm:s.heap.FunFrames C.h₀ Γ.fr
 frmOwn:∀b∈Γ.F,¬nB ρ b
 frmNew:∀b∈Γ.F,top C.h₀≤b
 frmDict:∀b∈Γ.F,∃o es n,s.heap.get? b=some o∧o.data=.dict es n
 loc:Locs C Γ s.heap ρ m
 newL:top C.h₀≤Γ.env.locals
 ownL:¬nB ρ Γ.env.locals
 cells:∀y∈Γ.env.cells,top C.h₀≤y.2∧¬nB ρ y.2∧y.2≠Γ.env.locals∧y.2∉Γ.F
 cellObj:∀y∈Γ.env.cells,∃o w,s.heap.get? y.2=some o∧o.data=.cell w
 cellsND:∀x y a,Γ.env.cells.lookup x=some a→Γ.env.cells.lookup y=some a→x=y
 gens:s.gens=#[]
 os:s.os=C.os
end Internal
end
section
namespace Internal
open PySem PySem.W PySem.Calls PyProof.Rows
noncomputable def Odd (o:Obj):Prop:=(∀xs n,o.data=.seq xs n→o.cls≠.type "tuple")∧∀vs,o.data≠.fields vs
theorem Odd.dict {o:Obj} {es:Array DictEntry} {n:Nat} (h:o.data=.dict es n):Odd o:=⟨fun _ _ q=>(by rw [h] at q;cases q),fun _ q=>(by rw [h] at q;cases q)⟩
theorem Odd.cell {o:Obj} {w:Option Value} (h:o.data=.cell w):Odd o:=⟨fun _ _ q=>(by rw [h] at q;cases q),fun _ q=>(by rw [h] at q;cases q)⟩
theorem AOR.odd {C:Cx} {h:Heap} {ρ:dI} {p:Addr×Addr} {ao:AO} (r:AOR C h ρ p ao) {b:Addr} (hb:b=p.1∨b=p.2):∃o,h.get? b=some o∧Odd o:=by
 induction ao with
 | list vs=>
  obtain ⟨e,xs,n,g,_⟩:=r
  have:b=p.1:=hb.elim id (fun q=>q.trans e)
  subst this
  exact ⟨_,g,by simp,by simp⟩
 | barr v=>
  obtain ⟨e,xs,g,_⟩:=r
  have:b=p.1:=hb.elim id (fun q=>q.trans e)
  subst this
  exact ⟨_,g,by simp,by simp⟩
 | inst c kvs=>
  obtain ⟨es,n,g,d,_⟩:=r
  rcases hb with rfl | rfl
  ·exact ⟨_,g,by simp,by simp⟩
  ·exact ⟨_,d,by simp,by simp⟩
theorem cO.own_odd {C:Cx} {Γ:Fx} {ρ:dI} {σ:aN} {m:Lo} {s:Shared} (I:cO C Γ ρ σ m s) {b:Addr} (o:nB ρ b):∃x,s.heap.get? b=some x∧Odd x:=by
 obtain ⟨p,hp,hb⟩:=o
 obtain ⟨i,hi⟩:=List.getElem?_of_mem hp
 have hlt:i < σ.length:=by rw [←I.len];exact (aX.mp hi).1
 exact (I.obj i p σ[i] hi (c5 hlt)).odd hb
theorem cO.frm_odd {C:Cx} {Γ:Fx} {ρ:dI} {σ:aN} {m:Lo} {s:Shared} (I:cO C Γ ρ σ m s) {b:Addr} (hb:b∈Γ.F):∃x,s.heap.get? b=some x∧Odd x:=by
 obtain ⟨o,es,n,e,d⟩:=I.frmDict b hb
 exact ⟨o,e,.dict d⟩
noncomputable def Rec (o:Obj):Prop:=∃vs,o.data=.fields vs
theorem Odd.no {o:Obj} (x:Odd o) (h:Still o∨Rec o):False:=by
 obtain ⟨a,c⟩:=x
 rcases h with ⟨h,xs,n,d⟩ | ⟨vs,h⟩
 ·exact a xs n d h
 ·exact c vs h
theorem cO.apart {C:Cx} {Γ:Fx} {ρ:dI} {σ:aN} {m:Lo} {s:Shared} (I:cO C Γ ρ σ m s) {b:Addr} {o:Obj} (e:s.heap.get? b=some o) (h:Still o∨Rec o):
  ¬nB ρ b∧b∉Γ.F∧b∉Γ.X:=by
 refine ⟨fun q=>?_,fun q=>?_,fun q=>?_⟩
 ·obtain ⟨x,ex,ox⟩:=I.own_odd q
  rw [e] at ex;cases ex;exact ox.no h
 ·obtain ⟨x,ex,ox⟩:=I.frm_odd q
  rw [e] at ex;cases ex;exact ox.no h
 ·rcases bN.mp q with rfl | q
  ·obtain ⟨nm,⟨o',es,ep,e',d,_⟩,_⟩:=I.loc.ns
   rw [e] at e';cases e';exact (Odd.dict d).no h
  ·obtain ⟨y,hy,rfl⟩:=dE.mp q
   obtain ⟨o',w,e',d⟩:=I.cellObj y hy
   rw [e] at e';cases e';exact (Odd.cell d).no h
theorem cO.immX {C:Cx} {Γ:Fx} {ρ:dI} {σ:aN} {m:Lo} {s:Shared} {h':Heap} (I:cO C Γ ρ σ m s) (k:Kp ρ Γ.F Γ.X s.heap h'):Imm s.heap h':=fun b o e c=>by
 have:=I.apart e (.inl c)
 exact k.keep b o e this.1 this.2.2 this.2.1
theorem cO.imm {C:Cx} {Γ:Fx} {ρ:dI} {σ:aN} {m:Lo} {s:Shared} {h':Heap} (I:cO C Γ ρ σ m s) (k:Kp ρ Γ.F [] s.heap h'):Imm s.heap h':=I.immX (k.monoX fun _ q=>nomatch q)
theorem Heap.Ns.slots {h h':Heap} {a:Addr} {m:Str→Option Value} (n:h.Ns a m) (k:∀o,h.get? a=some o→∃sl,h'.get? a=some {o with slots:=sl}):h'.Ns a m:=by
 refine hide fun Gx hGx=>?_
 obtain ⟨o,es,ep,e,d,r⟩:=n
 obtain ⟨sl,e'⟩:=k o e
 refine hGx ?_
 exact ⟨_,es,ep,e',d,r⟩
theorem AOR.mono {C:Cx} {h h':Heap} {ρ ρ':dI} {p:Addr×Addr} {ao:AO} (r:AOR C h ρ p ao) (k1:∀o,h.get? p.1=some o→h'.get? p.1=some o) (k2:∀o,h.get? p.2=some o→h'.get? p.2=some o)
  (k:Imm h h') (g:∀(i:Nat) q,ρ[i]? =some q→ρ'[i]? =some q):AOR C h' ρ' p ao:=by
 induction ao with
 | list vs=>obtain ⟨e,xs,n,a,z,b⟩:=r;exact ⟨e,xs,n,k1 _ a,z,b.mono k g⟩
 | barr v=>obtain ⟨e,xs,a,b⟩:=r;exact ⟨e,xs,k1 _ a,b⟩
 | inst c kvs=>obtain ⟨es,n,a,b,d⟩:=r;exact ⟨es,n,k1 _ a,k2 _ b,d.mono k g⟩
theorem Locs.keep {C:Cx} {Γ:Fx} {h h':Heap} {ρ ρ':dI} {m:Lo} (L:Locs C Γ h ρ m) (kL:∀o,h.get? Γ.env.locals=some o→∃sl,h'.get? Γ.env.locals=some {o with slots:=sl})
  (kc:∀y∈Γ.env.cells,∀o,h.get? y.2=some o→h'.get? y.2=some o) (k:Imm h h') (g:∀(i:Nat) q,ρ[i]? =some q→ρ'[i]? =some q):Locs C Γ h' ρ' m:=by
 refine ⟨L.len,?_,fun i x hi hk=>?_⟩
 ·obtain ⟨nm,n,r⟩:=L.ns
  refine ⟨nm,Heap.Ns.slots n kL,fun i x v hi hv hk=>?_⟩
  obtain ⟨u,hu,hr⟩:=r i x v hi hv hk
  exact ⟨u,hu,hr.mono k g⟩
 ·refine hide fun Gx hGx=>?_
  obtain ⟨c,o,w,hc,ho,hd,r⟩:=L.cell i x hi hk
  refine hGx ?_
  refine ⟨c,o,w,hc,kc (x,c) ?_ o ho,hd,fun v hv=>?_⟩
  ·obtain ⟨z,hz,hz'⟩:∃z,z∈Γ.env.cells∧z=(x,c):=by
    clear ho hd r kc
    generalize Γ.env.cells=l at hc
    induction l with
    | nil=>cases hc
    | cons y l ih=>
     rw [cA] at hc
     split at hc
     ·rename_i q
      cases hc
      exact ⟨y,.head _,by rw [show x=y.1 from by simpa using q]⟩
     ·obtain ⟨z,a,b⟩:=ih hc
      exact ⟨z,.tail _ a,b⟩
   exact hz'▸hz
  ·obtain ⟨u,hu,hr⟩:=r v hv
   exact ⟨u,hu,hr.mono k g⟩
theorem FunFrames.keep {base h h':Heap}:∀{l:List Env},h.FunFrames base l→(∀b∈l.filterMap (·.frame),∀o,h.get? b=some o→∃sl,h'.get? b=some {o with slots:=sl})→h'.FunFrames base l
 | [],_,_=>trivial
 | env::l,⟨hk,⟨L,o,hf,hn,ho,hd⟩,hr⟩,k=>by
  obtain ⟨sl,e⟩:=k L (by rw [gW,hf];exact .head _) o ho
  refine ⟨hk,⟨L,_,hf,hn,e,hd⟩,FunFrames.keep hr fun b hb=>k b ?_⟩
  rw [gW,hf];exact .tail _ hb
theorem cO.keep {C:Cx} {Γ:Fx} {ρ:dI} {σ:aN} {m:Lo} {s s':Shared} (I:cO C Γ ρ σ m s) (k:∀b o,s.heap.get? b=some o→b∉Γ.F→s'.heap.get? b=some o)
  (kF:∀b∈Γ.F,∀o,s.heap.get? b=some o→∃sl,s'.heap.get? b=some {o with slots:=sl}) (hg:s'.gens=s.gens) (ho:s'.os=s.os):cO C Γ ρ σ m s':=by
 have zl:oM s.heap s'.heap:=fun b o e=>by
  by_cases q:b∈Γ.F
  ·obtain ⟨sl,e'⟩:=kF b q o e;exact ⟨_,e'⟩
  ·exact ⟨o,k b o e q⟩
 have z:top s.heap≤top s'.heap:=mS zl
 have kp:Kp ρ Γ.F [] s.heap s'.heap:=⟨zl,fun b o e _ _ nf=>k b o e nf,fun b o e _ _ hf=>kF b hf o e⟩
 have im:=I.imm kp
 have kO:∀b,nB ρ b→∀o,s.heap.get? b=some o→s'.heap.get? b=some o:=fun b hb o e=>k b o e fun q=>I.frmOwn b q hb
 refine ⟨fun b o e=>k b o (I.base b o e) fun q=>?_,I.len,fun i p ao hp ha=>?_,I.dis,fun p hp=>?_,FunFrames.keep I.frm kF,I.frmOwn,I.frmNew,fun b hb=>?_,?_,I.newL,I.ownL,I.cells,fun y hy=>?_,I.cellsND,hg.trans I.gens,ho.trans I.os⟩
 ·exact absurd (e9 e) (bK.mpr (I.frmNew b q))
 ·exact (I.obj i p ao hp ha).mono (kO _ ⟨p,a7 hp,.inl rfl⟩) (kO _ ⟨p,a7 hp,.inr rfl⟩) im fun _ _ e=>e
 ·have:=I.own0 p hp
  exact ⟨this.1,this.2.1,aJ this.2.2.1 z,aJ this.2.2.2 z⟩
 ·refine hide fun Gx hGx=>?_
  obtain ⟨o,es,n,e,d⟩:=I.frmDict b hb
  obtain ⟨sl,e'⟩:=kF b hb o e
  refine hGx ?_
  exact ⟨_,es,n,e',d⟩
 ·refine I.loc.keep (fun o e=>?_) (fun y hy o e=>k _ o e (I.cells y hy).2.2.2) im fun _ _ e=>e
  by_cases q:Γ.env.locals∈Γ.F
  ·exact kF _ q o e
  ·exact ⟨o.slots,k _ o e q⟩
 ·obtain ⟨o,w,e,d⟩:=I.cellObj y hy
  exact ⟨o,w,k _ o e (I.cells y hy).2.2.2,d⟩
theorem cO.more {C:Cx} {Γ:Fx} {ρ:dI} {σ:aN} {m:Lo} {s s':Shared} (I:cO C Γ ρ σ m s) (k:∀b o,s.heap.get? b=some o→s'.heap.get? b=some o)
  (hg:s'.gens=s.gens:=by rfl) (ho:autoParam (s'.os=s.os) cO.more._auto_1):cO C Γ ρ σ m s':=I.keep (fun b o e _=>k b o e) (fun b _ o e=>⟨o.slots,k b o e⟩) hg ho
theorem cO.toks {C:Cx} {Γ:Fx} {ρ:dI} {σ:aN} {m:Lo} {s:Shared} (I:cO C Γ ρ σ m s) (t:Nat):cO C Γ ρ σ m {s with toks:=t}:=I.more fun _ _ e=>e
theorem Imm.of_keeps {h h':Heap} (k:∀b o,h.get? b=some o→h'.get? b=some o):Imm h h':=fun b o e _=>k b o e
theorem cO.new {C:Cx} {Γ:Fx} {ρ:dI} {σ:aN} {m:Lo} {s s':Shared} {p:Addr×Addr} {ao:AO} (I:cO C Γ ρ σ m s) (k:∀b o,s.heap.get? b=some o→s'.heap.get? b=some o)
  (r:AOR C s'.heap (ρ++[p]) p ao) (n1:top s.heap≤p.1) (n2:top s.heap≤p.2) (hg:autoParam (s'.gens=s.gens) cO.more._auto_1) (ho:autoParam (s'.os=s.os) cO.more._auto_1):
  cO C Γ (ρ++[p]) (σ++[ao]) m s':=by
 have J:=I.more k hg ho
 have l1:p.1 < top s'.heap:=by obtain ⟨o,e,_⟩:=r.odd (.inl rfl);exact e9 e
 have l2:p.2 < top s'.heap:=by obtain ⟨o,e,_⟩:=r.odd (.inr rfl);exact e9 e
 have g:∀(i:Nat) q,ρ[i]? =some q→(ρ++[p])[i]? =some q:=fun i q e=>by rw [bT (aX.mp e).1];exact e
 have im:Imm s'.heap s'.heap:=fun _ _ e _=>e
 have cases_:∀(i:Nat) q,(ρ++[p])[i]? =some q→ρ[i]? =some q∨(i=ρ.length∧q=p):=fun i q e=>by
  by_cases h:i < ρ.length
  ·rw [bT h] at e;exact .inl e
  ·have:=(aX.mp e).1
   simp at this
   have hi:i=ρ.length:=kM (bE this) (bU h)
   subst hi
   simp at e
   exact .inr ⟨rfl,e.symm⟩
 have ltO:∀{b},nB ρ b→b < top s.heap:=fun ⟨q,hq,hb⟩=>by
  have:=I.own0 q hq
  rcases hb with rfl | rfl
  ·exact this.2.2.1
  ·exact this.2.2.2
 have ownN:∀{b},nB (ρ++[p]) b→nB ρ b∨b=p.1∨b=p.2:=fun ⟨q,hq,hb⟩=>by
  rcases dS.mp hq with hq | hq
  ·exact .inl ⟨q,hq,hb⟩
  ·rw [bJ] at hq;subst hq;exact .inr hb
 have sz0:top C.h₀≤top s.heap:=by
  by_cases q:top C.h₀≤top s.heap
  ·exact q
  ·have:=I.newL
   obtain ⟨nm,⟨o,es,ep,e,_⟩,_⟩:=I.loc.ns
   exact aA this (b6 (e9 e))
 have notNew:∀{b o},s.heap.get? b=some o→¬nB ρ b→¬nB (ρ++[p]) b:=fun {b o} e n q=>by
  rcases ownN q with q | rfl | rfl
  ·exact n q
  ·exact absurd (e9 e) (bK.mpr n1)
  ·exact absurd (e9 e) (bK.mpr n2)
 refine ⟨J.base,by simp [I.len],fun i q ao' hq ha=>?_,fun i j q q' hi hj ne=>?_,fun q hq=>?_,J.frm,fun b hb=>?_,J.frmNew,J.frmDict,J.loc.keep (fun o e=>⟨o.slots,e⟩) (fun _ _ _ e=>e) im g,J.newL,?_,fun y hy=>?_,J.cellObj,J.cellsND,J.gens,J.os⟩
 ·rcases cases_ i q hq with e | ⟨rfl,rfl⟩
  ·have hlt:=(aX.mp e).1
   rw [bT (by rw [←I.len];exact hlt)] at ha
   exact (J.obj i q ao' e ha).mono (fun _ e=>e) (fun _ e=>e) im g
  ·rw [I.len] at ha
   simp at ha
   subst ha
   exact r
 ·rcases cases_ i q hi with e | ⟨rfl,rfl⟩
  ·rcases cases_ j q' hj with e' | ⟨rfl,rfl⟩
   ·exact I.dis i j q q' e e' ne
   ·have h1:=ltO ⟨q,a7 e,.inl rfl⟩
    have h2:=ltO ⟨q,a7 e,.inr rfl⟩
    refine ⟨?_,?_,?_,?_⟩ <;> (intro z;simp only [Addr] at*;omega)
  ·rcases cases_ j q' hj with e' | ⟨rfl,rfl⟩
   ·have h1:=ltO ⟨q',a7 e',.inl rfl⟩
    have h2:=ltO ⟨q',a7 e',.inr rfl⟩
    refine ⟨?_,?_,?_,?_⟩ <;> (intro z;simp only [Addr] at*;omega)
   ·exact absurd rfl ne
 ·rcases dS.mp hq with hq | hq
  ·exact J.own0 q hq
  ·rw [bJ] at hq;subst hq
   exact ⟨aA sz0 n1,aA sz0 n2,l1,l2⟩
 ·obtain ⟨o,_,_,e,_⟩:=I.frmDict b hb
  exact notNew e (I.frmOwn b hb)
 ·obtain ⟨nm,⟨o,es,ep,e,_⟩,_⟩:=I.loc.ns
  exact notNew e I.ownL
 ·refine hide fun Gx hGx=>?_
  obtain ⟨a,b,c,d⟩:=I.cells y hy
  obtain ⟨o,w,e,_⟩:=I.cellObj y hy
  refine hGx ?_
  exact ⟨a,notNew e b,c,d⟩
theorem upd_top {C:Cx} {h h':Heap} {ρ:dI} {p:Addr×Addr} {ao:AO} (r:AOR C h' ρ p ao) (k:∀b o,h.get? b=some o→b≠p.1→b≠p.2→h'.get? b=some o):oM h h':=fun b o e=>by
 by_cases q1:b=p.1
 ·obtain ⟨o',e',_⟩:=r.odd (.inl q1);exact ⟨o',e'⟩
 ·by_cases q2:b=p.2
  ·obtain ⟨o',e',_⟩:=r.odd (.inr q2);exact ⟨o',e'⟩
  ·exact ⟨o,k b o e q1 q2⟩
theorem cO.upd {C:Cx} {Γ:Fx} {ρ:dI} {σ:aN} {m:Lo} {s s':Shared} {i:Nat} {p:Addr×Addr} {ao:AO} (I:cO C Γ ρ σ m s) (hi:ρ[i]? =some p)
  (k:∀b o,s.heap.get? b=some o→b≠p.1→b≠p.2→s'.heap.get? b=some o) (r:AOR C s'.heap ρ p ao) (hg:autoParam (s'.gens=s.gens) cO.more._auto_1) (ho:autoParam (s'.os=s.os) cO.more._auto_1):cO C Γ ρ (σ.set i ao) m s':=by
 have hp:p∈ρ:=a7 hi
 have o1:nB ρ p.1:=⟨p,hp,.inl rfl⟩
 have o2:nB ρ p.2:=⟨p,hp,.inr rfl⟩
 have zl:oM s.heap s'.heap:=upd_top r k
 have z:top s.heap≤top s'.heap:=mS zl
 have k':∀b o,s.heap.get? b=some o→¬nB ρ b→s'.heap.get? b=some o:=fun b o e n=>k b o e (fun q=>n (q▸o1)) (fun q=>n (q▸o2))
 have kp:Kp ρ Γ.F [] s.heap s'.heap:=⟨zl,fun b o e n _ _=>k' b o e n,fun b o e n _ _=>⟨o.slots,k' b o e n⟩⟩
 have im:=I.imm kp
 have kF:∀b∈Γ.F,∀o,s.heap.get? b=some o→∃sl,s'.heap.get? b=some {o with slots:=sl}:=fun b hb o e=>⟨o.slots,k' b o e (I.frmOwn b hb)⟩
 refine ⟨fun b o e=>k' b o (I.base b o e) fun ⟨q,hq,hb⟩=>?_,by simp [I.len],fun j q ao' hq ha=>?_,I.dis,fun q hq=>?_,FunFrames.keep I.frm kF,I.frmOwn,I.frmNew,fun b hb=>?_,I.loc.keep (fun o e=>⟨o.slots,k' _ o e I.ownL⟩) (fun y hy o e=>k' _ o e (I.cells y hy).2.1) im fun _ _ e=>e,I.newL,I.ownL,I.cells,fun y hy=>?_,I.cellsND,hg.trans I.gens,ho.trans I.os⟩
 ·have:=I.own0 q hq
  have lt:=e9 e
  rcases hb with rfl | rfl
  ·exact absurd lt (bK.mpr this.1)
  ·exact absurd lt (bK.mpr this.2.1)
 ·by_cases h:j=i
  ·subst h
   rw [hi] at hq;cases hq
   rw [List.getElem?_set_self' ] at ha
   cases q:σ[j]? with
   | none=>rw [q] at ha;cases ha
   | some x=>rw [q] at ha;cases ha;exact r
  ·rw [List.getElem?_set_ne (Ne.symm h)] at ha
   have d:=I.dis j i q p hq hi h
   exact (I.obj j q ao' hq ha).mono (fun o e=>k _ o e d.1 d.2.1) (fun o e=>k _ o e d.2.2.1 d.2.2.2) im fun _ _ e=>e
 ·have:=I.own0 q hq
  exact ⟨this.1,this.2.1,aJ this.2.2.1 z,aJ this.2.2.2 z⟩
 ·obtain ⟨o,es,n,e,d⟩:=I.frmDict b hb
  exact ⟨o,es,n,k' b o e (I.frmOwn b hb),d⟩
 ·obtain ⟨o,w,e,d⟩:=I.cellObj y hy
  exact ⟨o,w,k' _ o e (I.cells y hy).2.1,d⟩
theorem Kp.upd {C:Cx} {ρ:dI} {F X:List Addr} {h h':Heap} {i:Nat} {p:Addr×Addr} {ao:AO} (hi:ρ[i]? =some p) (r:AOR C h' ρ p ao) (k:∀b o,h.get? b=some o→b≠p.1→b≠p.2→h'.get? b=some o):Kp ρ F X h h':=
 have hp:p∈ρ:=a7 hi
 have k':∀b o,h.get? b=some o→¬nB ρ b→h'.get? b=some o:=fun b o e n=>k b o e (fun q=>n ⟨p,hp,.inl q⟩) (fun q=>n ⟨p,hp,.inr q⟩)
 ⟨upd_top r k,fun b o e n _ _=>k' b o e n,fun b o e n _ _=>⟨o.slots,k' b o e n⟩⟩
theorem oG:∀{m:Lo} {i:Nat} {v:V},i < m.length→cD (jY m i v) i=some v
 | [],_,_,h=>nomatch h
 | _::_,0,_,_=>rfl
 | _::r,i+1,v,h=>oG (m:=r) (by simpa using h)
theorem iK:∀{m:Lo} {i j:Nat} {v:V},j≠i→cD (jY m i v) j=cD m j
 | [],_,_,_,_=>rfl
 | _::_,0,0,_,h=>absurd rfl h
 | _::_,0,_+1,_,_=>rfl
 | _::_,_+1,0,_,_=>rfl
 | _::r,i+1,j+1,v,h=>iK (m:=r) fun e=>‹j+1≠i+1› (congrArg (·+1) e)
theorem iG:∀{m:Lo} {i:Nat} {v:V},(jY m i v).length=m.length
 | [],_,_=>rfl
 | _::_,0,_=>rfl
 | _::r,_+1,_=>congrArg Nat.succ (iG (m:=r))
theorem getV_lt:∀{m:Lo} {i:Nat} {v:V},cD m i=some v→i < m.length
 | [],_,_,h=>nomatch h
 | _::_,0,_,_=>fM _
 | _::r,i+1,v,h=>by exact Nat.succ_lt_succ (getV_lt (m:=r) h)
theorem eV {x:Str} {c:Addr}:∀{l:List (Str×Addr)},l.lookup x=some c→(x,c)∈l
 | [],h=>nomatch h
 | y::l,h=>by
  rw [cA] at h
  split at h
  ·rename_i q
   cases h
   rw [show x=y.1 from by simpa using q];exact .head _
  ·exact .tail _ (eV h)
theorem cO.loose {C:Cx} {Γ:Fx} {ρ:dI} {σ:aN} {m m':Lo} {s s':Shared} (I:cO C Γ ρ σ m s) (kp:Kp ρ Γ.F Γ.X s.heap s'.heap)
  (kO:∀b,nB ρ b→∀o,s.heap.get? b=some o→s'.heap.get? b=some o)
  (kF:∀b∈Γ.F,∀o,s.heap.get? b=some o→b≠Γ.env.locals→∃sl,s'.heap.get? b=some {o with slots:=sl})
  (hL:∃o es n,s'.heap.get? Γ.env.locals=some o∧o.data=.dict es n) (hc:∀y∈Γ.env.cells,∃o w,s'.heap.get? y.2=some o∧o.data=.cell w)
  (L:Locs C Γ s'.heap ρ m') (hg:s'.gens=s.gens) (ho:s'.os=s.os):cO C Γ ρ σ m' s':=by
 have z:=kp.size
 have im:=I.immX kp
 have lt0:∀b o,C.h₀.get? b=some o→∀a,top C.h₀≤a→b≠a:=fun b o e a ha q=>absurd (e9 e) (bK.mpr (q▸ha))
 refine ⟨fun b o e=>kp.keep b o (I.base b o e) (fun ⟨q,hq,hb⟩=>?_) (fun q=>?_) fun q=>lt0 b o e b (I.frmNew b q) rfl,I.len,fun i p ao hp ha=>?_,I.dis,fun p hp=>?_,?_,I.frmOwn,I.frmNew,fun b hb=>?_,L,I.newL,I.ownL,I.cells,hc,I.cellsND,hg.trans I.gens,ho.trans I.os⟩
 ·have:=I.own0 q hq
  exact hb.elim (fun q=>lt0 b o e _ this.1 q) fun q=>lt0 b o e _ this.2.1 q
 ·rcases bN.mp q with q | q
  ·exact lt0 b o e _ I.newL q
  ·obtain ⟨y,hy,q⟩:=dE.mp q
   exact lt0 b o e _ (I.cells y hy).1 q.symm
 ·exact (I.obj i p ao hp ha).mono (kO _ ⟨p,a7 hp,.inl rfl⟩) (kO _ ⟨p,a7 hp,.inr rfl⟩) im fun _ _ e=>e
 ·have:=I.own0 p hp
  exact ⟨this.1,this.2.1,aJ this.2.2.1 z,aJ this.2.2.2 z⟩
 ·have fk:=I.frm
  revert fk
  have kF':∀b∈Γ.fr.filterMap (·.frame),∀o,s.heap.get? b=some o→b≠Γ.env.locals→∃sl,s'.heap.get? b=some {o with slots:=sl}:=kF
  revert kF'
  generalize Γ.fr=l
  intro kF' fk
  induction l with
  | nil=>trivial
  | cons env l ih=>
   obtain ⟨hk,⟨L',o,hf,hn,ho',hd⟩,hr⟩:=fk
   refine ⟨hk,?_,ih (fun b hb=>kF' b (by rw [gW,hf];exact .tail _ hb)) hr⟩
   by_cases q:L'=Γ.env.locals
   ·refine hide fun Gx hGx=>?_
    obtain ⟨o',es,n,e',d'⟩:=hL
    refine hGx ?_
    exact ⟨L',o',hf,hn,q▸e',fun vs q=>by rw [d'] at q;cases q⟩
   ·obtain ⟨sl,e'⟩:=kF' L' (by rw [gW,hf];exact .head _) o ho' q
    exact ⟨L',_,hf,hn,e',hd⟩
 ·by_cases q:b=Γ.env.locals
  ·subst q;exact hL
  ·refine hide fun Gx hGx=>?_
   obtain ⟨o,es,n,e,d⟩:=I.frmDict b hb
   obtain ⟨sl,e'⟩:=kF b hb o e q
   refine hGx ?_
   exact ⟨_,es,n,e',d⟩
theorem cO.setLocal {C:Cx} {Γ:Fx} {ρ:dI} {σ:aN} {m:Lo} {s s':Shared} {i:Nat} {x:Str} {u:Value} {v:V} (I:cO C Γ ρ σ m s) (hx:Γ.vars[i]? =some x) (hr:VR s.heap ρ u v)
  (hvar:∀(j:Nat),Γ.vars[j]? =some x→j=i)
  (hn:∀nm,s.heap.Ns Γ.env.locals nm→s'.heap.Ns Γ.env.locals (fun y=>if y=x then some u else nm y)) (hs:Heap.SameBut Γ.env.locals s.heap s'.heap) (hk:Γ.env.kindOf x=some .local)
  (hg:autoParam (s'.gens=s.gens) cO.more._auto_1) (ho:autoParam (s'.os=s.os) cO.more._auto_1):cO C Γ ρ σ (jY m i v) s'∧Kp ρ Γ.F Γ.X s.heap s'.heap:=by
 have k:∀b o,s.heap.get? b=some o→b≠Γ.env.locals→s'.heap.get? b=some o:=fun b o e n=>(hs.2 b n).trans e
 have inX:Γ.env.locals∈Γ.X:=.head _
 obtain ⟨nm,n,r⟩:=I.loc.ns
 have n':=hn nm n
 have kp:Kp ρ Γ.F Γ.X s.heap s'.heap:=⟨fun b o e=>by
  by_cases q:b=Γ.env.locals
  ·obtain ⟨o',es,ep,e',_⟩:=n';exact ⟨o',q▸e'⟩
  ·exact ⟨o,k b o e q⟩,fun b o e _ nx _=>k b o e fun q=>nx (q▸inX),fun b o e _ nx _=>⟨o.slots,k b o e fun q=>nx (q▸inX)⟩⟩
 have im:=I.immX kp
 refine ⟨I.loose kp (fun b hb o e=>k b o e fun q=>I.ownL (q▸hb)) (fun b _ o e ne=>⟨o.slots,k b o e ne⟩) ?_ (fun y hy=>?_) ⟨iG.trans I.loc.len,⟨_,n',fun j y w hj hw hkj=>?_⟩,fun j y hj hkj=>?_⟩ hg ho,kp⟩
 ·refine hide fun Gx hGx=>?_
  obtain ⟨o,es,ep,e,d,_⟩:=n'
  refine hGx ?_
  exact ⟨o,es,ep,e,d⟩
 ·obtain ⟨o,w,e,d⟩:=I.cellObj y hy
  exact ⟨o,w,k _ o e (I.cells y hy).2.2.1,d⟩
 ·by_cases q:y=x
  ·subst q
   have:j=i:=hvar j hj
   subst this
   rw [oG (by rw [←iG (i:=j) (v:=v)];exact getV_lt hw)] at hw
   cases hw
   exact ⟨u,by simp,hr.mono im fun _ _ e=>e⟩
  ·have hji:j≠i:=fun z=>q (by subst z;rw [hx] at hj;exact (Option.some.inj hj).symm)
   rw [iK hji] at hw
   obtain ⟨u',hu,hr'⟩:=r j y w hj hw hkj
   exact ⟨u',by simp [q,hu],hr'.mono im fun _ _ e=>e⟩
 ·obtain ⟨c,o,w,hc,ho',hd,r'⟩:=I.loc.cell j y hj hkj
  have hji:j≠i:=fun z=>by
   subst z;rw [hx] at hj;cases hj
   rw [hk] at hkj;rcases hkj with q | q <;> cases q
  refine ⟨c,o,w,hc,k _ o ho' (I.cells _ (eV hc)).2.2.1,hd,fun v' hv'=>?_⟩
  rw [iK hji] at hv'
  obtain ⟨u',hu,hr'⟩:=r' v' hv'
  exact ⟨u',hu,hr'.mono im fun _ _ e=>e⟩
theorem cO.setCell {C:Cx} {Γ:Fx} {ρ:dI} {σ:aN} {m:Lo} {s s':Shared} {i:Nat} {x:Str} {c:Addr} {u:Value} {v:V} (I:cO C Γ ρ σ m s) (hx:Γ.vars[i]? =some x) (hr:VR s.heap ρ u v)
  (hvar:∀(j:Nat),Γ.vars[j]? =some x→j=i) (hc:Γ.env.cells.lookup x=some c)
  (hn:∃o,s'.heap.get? c=some o∧o.data=.cell (some u)) (hs:Heap.SameBut c s.heap s'.heap)
  (hk:Γ.env.kindOf x=some .cell) (hg:autoParam (s'.gens=s.gens) cO.more._auto_1) (ho:autoParam (s'.os=s.os) cO.more._auto_1):cO C Γ ρ σ (jY m i v) s'∧Kp ρ Γ.F Γ.X s.heap s'.heap:=by
 have k:∀b o,s.heap.get? b=some o→b≠c→s'.heap.get? b=some o:=fun b o e n=>(hs.2 b n).trans e
 have cc:=I.cells _ (eV hc)
 have inX:c∈Γ.X:=.tail _ (dE.mpr ⟨_,eV hc,rfl⟩)
 have kp:Kp ρ Γ.F Γ.X s.heap s'.heap:=⟨fun b o e=>by
  by_cases q:b=c
  ·obtain ⟨o',e',_⟩:=hn;exact ⟨o',q▸e'⟩
  ·exact ⟨o,k b o e q⟩,fun b o e _ nx _=>k b o e fun q=>nx (q▸inX),fun b o e _ nx _=>⟨o.slots,k b o e fun q=>nx (q▸inX)⟩⟩
 have im:=I.immX kp
 obtain ⟨nm,n,r⟩:=I.loc.ns
 have n':s'.heap.Ns Γ.env.locals nm:=n.sameBut hs (Ne.symm cc.2.2.1)
 refine ⟨I.loose kp (fun b hb o e=>k b o e fun q=>cc.2.1 (q▸hb)) (fun b hb o e _=>⟨o.slots,k b o e fun q=>cc.2.2.2 (q▸hb)⟩) ?_ (fun y hy=>?_) ⟨iG.trans I.loc.len,⟨_,n',fun j y w hj hw hkj=>?_⟩,fun j y hj hkj=>?_⟩ hg ho,kp⟩
 ·obtain ⟨o,es,ep,e,d,_⟩:=n'
  exact ⟨o,es,ep,e,d⟩
 ·by_cases q:y.2=c
  ·obtain ⟨o,e,d⟩:=hn
   exact ⟨o,_,q▸e,d⟩
  ·obtain ⟨o,w,e,d⟩:=I.cellObj y hy
   exact ⟨o,w,k _ o e q,d⟩
 ·have hji:j≠i:=fun z=>by
   subst z;rw [hx] at hj;cases hj
   rw [hk] at hkj;cases hkj
  rw [iK hji] at hw
  obtain ⟨u',hu,hr'⟩:=r j y w hj hw hkj
  exact ⟨u',hu,hr'.mono im fun _ _ e=>e⟩
 ·by_cases q:y=x
  ·subst q
   have:j=i:=hvar j hj
   subst this
   obtain ⟨o,e,d⟩:=hn
   refine ⟨c,o,_,hc,e,d,fun v' hv'=>?_⟩
   rw [oG (by rw [←iG (i:=j) (v:=v)];exact getV_lt hv')] at hv'
   cases hv'
   exact ⟨u,rfl,hr.mono im fun _ _ e=>e⟩
  ·have hji:j≠i:=fun z=>q (by subst z;rw [hx] at hj;exact (Option.some.inj hj).symm)
   obtain ⟨c',o,w,hc',ho',hd,r'⟩:=I.loc.cell j y hj hkj
   refine ⟨c',o,w,hc',k _ o ho' (fun z=>q (I.cellsND y x c (z▸hc') hc)),hd,fun v' hv'=>?_⟩
   rw [iK hji] at hv'
   obtain ⟨u',hu,hr'⟩:=r' v' hv'
   exact ⟨u',hu,hr'.mono im fun _ _ e=>e⟩
end Internal
end
section
namespace Internal
open PySem PySem.W PySem.Calls PyProof.Rows
inductive TbF (n:Heap) (h:Heap) (a:Addr) (vs:Array Value) (P:Option Value→Prop):Prop
 | mk (T:Addr) (oT:Obj) (ts:Array Value) (fl:Value) (h1:vs[1]? =some (.ref T)) (h2:n.get? T=none) (h3:T≠a) (h4:h.get? T=some oT) (h5:oT.data=.fields ts) (h6:ts[3]? =some fl) (h7:P (some fl))
inductive ExcF (C:Cx) (n:Heap) (h:Heap) (e:Value) (x:Ex) (P:Option Value→Prop):Prop
 | mk (a:Addr) (oe:Obj) (vs:Array Value) (h1:e=.ref a) (h2:n.get? a=none) (h3:h.get? a=some oe) (h4:oe.cls=.ref (C.exA x)) (h5:oe.data=.fields vs) (h6:(∃a0,vs[0]? =some a0)∧(x≠.BadCommand→vs[2]? =some .none))
  (h7:(vs[1]? =some .none∧P none)∨TbF n h a vs P)
theorem ExcF.mono {C:Cx} {n n':Heap} {h:Heap} {e:Value} {x:Ex} {P P':Option Value→Prop} (r:ExcF C n h e x P) (z:oM n' n) (p:∀o,P o→P' o):ExcF C n' h e x P':=by
 obtain ⟨a,oe,vs,h1,h2,h3,h4,h5,h6,h7⟩:=r
 exact ⟨a,oe,vs,h1,z.none h2,h3,h4,h5,h6,h7.imp (fun q=>⟨q.1,p _ q.2⟩) fun ⟨T,oT,ts,fl,g1,g2,g3,g4,g5,g6,g7⟩=>⟨T,oT,ts,fl,g1,z.none g2,g3,g4,g5,g6,p _ g7⟩⟩
noncomputable def Flies (o:Option Value):Prop:=o=some .none
noncomputable def Held (Γ:Fx) (o:Option Value):Prop:=∃L,Γ.env.frame=some L∧o=some (rawInt L)
noncomputable def Any (Γ:Fx) (o:Option Value):Prop:=o=none∨Flies o∨Held Γ o
noncomputable abbrev ExcAt (C:Cx) (Γ:Fx) (n:Heap) (h:Heap) (e:Value) (x:Ex):Prop:=ExcF C n h e x (Any Γ)
theorem cO.live0 {C:Cx} {Γ:Fx} {ρ:dI} {σ:aN} {m:Lo} {s:Shared} (J:cO C Γ ρ σ m s):oM C.h₀ s.heap:=fun b o e=>⟨o,J.base b o e⟩
inductive PQh (C:Cx) (Γ:Fx) (ρ:dI) (m:Lo) (h₀:Heap) (Q:V→aN→Prop) (v:Value) (s':Shared):Prop
 | mk (ρ':dI) (σ':aN) (v':V) (g:fO ρ ρ' h₀) (k:Kp ρ Γ.F [] h₀ s'.heap) (J:cO C Γ ρ' σ' m s') (r:VR s'.heap ρ' v v') (q:Q v' σ')
noncomputable abbrev PQ (C:Cx) (Γ:Fx) (ρ:dI) (m:Lo) (s:Shared) (Q:V→aN→Prop):Value→Shared→Prop:=PQh C Γ ρ m s.heap Q
inductive PBh (C:Cx) (Γ:Fx) (ρ:dI) (m:Lo) (h₀:Heap) (k:Bool→aN→Prop) (b:Bool) (s':Shared):Prop
 | mk (ρ':dI) (σ':aN) (g:fO ρ ρ' h₀) (kp:Kp ρ Γ.F [] h₀ s'.heap) (J:cO C Γ ρ' σ' m s') (q:k b σ')
noncomputable abbrev PB (C:Cx) (Γ:Fx) (ρ:dI) (m:Lo) (s:Shared) (k:Bool→aN→Prop):Bool→Shared→Prop:=PBh C Γ ρ m s.heap k
inductive PLh (C:Cx) (Γ:Fx) (ρ:dI) (m:Lo) (h₀:Heap) (Q:List V→aN→Prop) (v:List Value) (s':Shared):Prop
 | mk (ρ':dI) (σ':aN) (v':List V) (g:fO ρ ρ' h₀) (k:Kp ρ Γ.F [] h₀ s'.heap) (J:cO C Γ ρ' σ' m s') (r:gQ s'.heap ρ' v v') (q:Q v' σ')
noncomputable abbrev PL (C:Cx) (Γ:Fx) (ρ:dI) (m:Lo) (s:Shared) (Q:List V→aN→Prop):List Value→Shared→Prop:=PLh C Γ ρ m s.heap Q
inductive PXh (C:Cx) (Γ:Fx) (ρ:dI) (m:Lo) (h₀:Heap) (X:Ex→aN→Prop) (e:Value) (s':Shared):Prop
 | mk (ρ':dI) (σ':aN) (x:Ex) (g:fO ρ ρ' h₀) (k:Kp ρ Γ.F [] h₀ s'.heap) (J:cO C Γ ρ' σ' m s') (r:ExcAt C Γ h₀ s'.heap e x) (q:X x σ')
noncomputable abbrev PX (C:Cx) (Γ:Fx) (ρ:dI) (m:Lo) (s:Shared) (X:Ex→aN→Prop):Value→Shared→Prop:=PXh C Γ ρ m s.heap X
section
variable {C:Cx} {Γ:Fx} {ρ ρ₁:dI} {σ:aN} {m:Lo} {s s₁ s':Shared}
theorem PQ.after {Q:V→aN→Prop} {v:Value} (g:fO ρ ρ₁ s.heap) (k:Kp ρ Γ.F [] s.heap s₁.heap) (r:PQ C Γ ρ₁ m s₁ Q v s'):PQ C Γ ρ m s Q v s':=by
 obtain ⟨ρ',σ',v',a,b,c,c1,c2⟩:=r
 exact ⟨ρ',σ',v',g.trans a k.size,k.trans g b,c,c1,c2⟩
theorem PL.after {Q:List V→aN→Prop} {v:List Value} (g:fO ρ ρ₁ s.heap) (k:Kp ρ Γ.F [] s.heap s₁.heap) (r:PL C Γ ρ₁ m s₁ Q v s'):PL C Γ ρ m s Q v s':=by
 obtain ⟨ρ',σ',v',a,b,c,c1,c2⟩:=r
 exact ⟨ρ',σ',v',g.trans a k.size,k.trans g b,c,c1,c2⟩
theorem PB.after {Q:Bool→aN→Prop} {v:Bool} (g:fO ρ ρ₁ s.heap) (k:Kp ρ Γ.F [] s.heap s₁.heap) (r:PB C Γ ρ₁ m s₁ Q v s'):PB C Γ ρ m s Q v s':=by
 obtain ⟨ρ',σ',a,b,c,c1⟩:=r
 exact ⟨ρ',σ',g.trans a k.size,k.trans g b,c,c1⟩
theorem PX.after {X:Ex→aN→Prop} {e:Value} (g:fO ρ ρ₁ s.heap) (k:Kp ρ Γ.F [] s.heap s₁.heap) (r:PX C Γ ρ₁ m s₁ X e s'):PX C Γ ρ m s X e s':=by
 obtain ⟨ρ',σ',x,a,b,c,d,f⟩:=r
 exact ⟨ρ',σ',x,g.trans a k.size,k.trans g b,c,d.mono k.live fun _ h=>h,f⟩
theorem PQ.here {Q:V→aN→Prop} {v:Value} {v':V} (I:cO C Γ ρ σ m s) (r:VR s.heap ρ v v') (q:Q v' σ):PQ C Γ ρ m s Q v s:=⟨ρ,σ,v',.refl _ _,.refl _ _ _ _,I,r,q⟩
theorem PQ.tk {Q:V→aN→Prop} {v:Value} {v':V} {t:Nat} (I:cO C Γ ρ σ m s) (r:VR s.heap ρ v v') (q:Q v' σ):PQ C Γ ρ m s Q v {s with toks:=t}:=⟨ρ,σ,v',.refl _ _,.refl _ _ _ _,I.toks t,r,q⟩
theorem PB.here {Q:Bool→aN→Prop} {v:Bool} (I:cO C Γ ρ σ m s) (q:Q v σ):PB C Γ ρ m s Q v s:=⟨ρ,σ,.refl _ _,.refl _ _ _ _,I,q⟩
theorem PB.tk {Q:Bool→aN→Prop} {v:Bool} {t:Nat} (I:cO C Γ ρ σ m s) (q:Q v σ):PB C Γ ρ m s Q v {s with toks:=t}:=⟨ρ,σ,.refl _ _,.refl _ _ _ _,I.toks t,q⟩
end
structure kG (sc:Scope) (env:Env):Prop where
 glob:∀x,gC sc x=true→env.kindOf x=some .globalImplicit
 var:∀x,isVar sc x=true→isVarK (env.kindOf x)
 cf:∀x,(sc.names.lookup x=some .cell∨sc.names.lookup x=some .free)→(env.kindOf x=some .cell∨env.kindOf x=some .free)
noncomputable abbrev Cx.M (C:Cx):Model:=model C.prog C.w
noncomputable def SE (C:Cx) (d:Nat) (sc:Scope) (vars:List Str) (e:Expr) (me:M):Prop:=
 ∀(Γ:Fx) (ρ:dI) (σ:aN) (m:Lo) (s:Shared) (Q:V→aN→Prop) (X:Ex→aN→Prop),Γ.Wf d→kG sc Γ.env→Γ.vars=vars→cO C Γ ρ σ m s→wpE (wpCall d) me m σ Q X→
  wpG C.M Γ.A (eval e Γ.env) (PQ C Γ ρ m s Q) (PX C Γ ρ m s X) s
noncomputable def ST (C:Cx) (d:Nat) (sc:Scope) (vars:List Str) (e:Expr) (me:M):Prop:=
 ∀(Γ:Fx) (ρ:dI) (σ:aN) (m:Lo) (s:Shared) (k:Bool→aN→Prop) (X:Ex→aN→Prop),Γ.Wf d→kG sc Γ.env→Γ.vars=vars→cO C Γ ρ σ m s→wpT (wpCall d) me m σ (fun K=>wpE (wpCall d) me m σ K X) k X→
  wpG C.M Γ.A (isTrue e Γ.env (eval e Γ.env)) (PB C Γ ρ m s k) (PX C Γ ρ m s X) s
section
variable {C:Cx} {d:Nat} {sc:Scope} {vars:List Str}
theorem dY {x:Str} (h:j0 x=false):(x==("__debug__" :Str))=false:=by
 unfold j0 at h
 rw [Bool.or_eq_false_iff] at h
 rw [beq_eq_false_iff_ne]
 intro q
 rw [sEq_iff.mpr q] at h;cases h.1
theorem oddName_cd {x:Str} (h:j0 x=false):(x==("__classdict__" :Str))=false:=by
 unfold j0 at h
 rw [Bool.or_eq_false_iff] at h
 rw [beq_eq_false_iff_ne]
 intro q
 rw [sEq_iff.mpr q] at h;cases h.2
theorem isVar_odd {x:Str} (h:isVar sc x=true):j0 x=false:=by
 exact nF (aR h)
theorem iJ {x:Str} (h:gC sc x=true):j0 x=false:=by
 exact nF (aR h)
theorem SE_none {k pos}:SE C d sc vars (.Constant .none k pos) .cN:=fun Γ ρ σ m s Q X _ _ _ I q=>bV (wpAny_Constant_none (.here I .none q))
theorem SE_bool {b k pos}:SE C d sc vars (.Constant (.bool b) k pos) (.cB b):=fun Γ ρ σ m s Q X _ _ _ I q=>bV (wpAny_Constant_bool (.here I (.bool b) q))
theorem SE_int {i k pos}:SE C d sc vars (.Constant (.int i) k pos) (.cI i):=fun Γ ρ σ m s Q X _ _ _ I q=>bV (wpAny_Constant_int (.tk I (.int i _) q))
theorem SE_str {x k pos}:SE C d sc vars (.Constant (.str x) k pos) .cS:=fun Γ ρ σ m s Q X _ _ _ I q=>bV (Constant_str (.tk I (.str x _) q))
theorem SE_bytes {b k pos} (z:b.length≤lim):SE C d sc vars (.Constant (.bytes b) k pos) (.cY (b.map (·.toNat))):=fun Γ ρ σ m s Q X _ _ _ I q=>bV (Constant_bytes (.tk I (by simpa using VR.bytes b.toArray _ (by simpa using z)) q))
theorem var_load {Γ:Fx} {ρ:dI} {σ:aN} {m:Lo} {s:Shared} {x:Str} {i:Nat} {v:V} {Q:Value→Shared→Prop} {E:Value→Shared→Prop} {M:Model} (I:cO C Γ ρ σ m s) (hk:Γ.env.scope.kind=.function) (hv:isVarK (Γ.env.kindOf x)) (ho:j0 x=false)
  (hi:Γ.vars[i]? =some x) (hg:cD m i=some v) (h:∀u,VR s.heap ρ u v→Q u s):wpAny M Γ.A (loadName Γ.env x) Q E s:=by
 rcases hv with hk' | hk' | hk'
 ·obtain ⟨nm,n,r⟩:=I.loc.ns
  obtain ⟨u,hu,hr⟩:=r i x v hi hg hk'
  exact wpAny_loadName_local hk hk' n hu (h u hr)
 ·obtain ⟨c,o,w,hc,ho',hd,r⟩:=I.loc.cell i x hi (.inl hk')
  obtain ⟨u,rfl,hr⟩:=r v hg
  exact wpAny_loadName_cell hk hk' hc ⟨o,ho',hd⟩ (h u hr)
 ·obtain ⟨c,o,w,hc,ho',hd,r⟩:=I.loc.cell i x hi (.inr hk')
  obtain ⟨u,rfl,hr⟩:=r v hg
  exact wpAny_loadName_free hk hk' hc ⟨o,ho',hd⟩ (h u hr) (oddName_cd ho)
theorem fF {x:Str} {i:Nat} (h:o7 sc vars x=some i):isVar sc x=true∧vars[i]? =some x:=by
 unfold o7 at h
 split at h
 ·rename_i q;exact ⟨q,idxOf_get h⟩
 ·cases h
theorem SE_loc {x pos i} (h:o7 sc vars x=some i):SE C d sc vars (.Name x pos) (.loc i):=fun Γ ρ σ m s Q X W S hv I q=>by
 refine hide fun Gx hGx=>?_
 obtain ⟨v,hg,q⟩:=optP_ex q
 obtain ⟨a,b⟩:=fF h
 refine hGx ?_
 exact lF (var_load I W.kind (S.var x a) (isVar_odd a) (hv▸b) hg fun u r=>.here I r q) (dY (isVar_odd a))
theorem rep_length {α:Type} (b:List α) (n:Nat):(rep b n).length=b.length*n:=by
 induction n with
 | zero=>rfl
 | succ n ih=>exact aF.trans (by rw [ih,Nat.mul_succ,eY])
theorem iP (b:Array UInt8):(b.toList.map (·.toNat)).length=b.size:=by simp
theorem bitOr_nat {x y:Int} (hx:0≤x) (hy:0≤y):Builtin.bitOr x y=((x.toNat ||| y.toNat:Nat):Int):=by
 have e:∀z:Int,Builtin.bitNot (Builtin.bitNot z)=z:=fun z=>by unfold Builtin.bitNot;omega
 have n:∀z:Int,0≤z→decide (0≤Builtin.bitNot z)=false:=fun z hz=>by unfold Builtin.bitNot;exact decide_eq_false (by omega)
 unfold Builtin.bitOr Builtin.bitAnd
 rw [n x hx,n y hy]
 simp only [e]
theorem bitAnd_nat {x y:Int} (hx:0≤x) (hy:0≤y):Builtin.bitAnd x y=((x.toNat &&& y.toNat:Nat):Int):=by
 unfold Builtin.bitAnd
 rw [decide_eq_true hx,decide_eq_true hy]
theorem rep_flatten (b:List UInt8) (n:Nat):((List.replicate n b).flatten).map (·.toNat)=rep (b.map (·.toNat)) n:=by
 induction n with
 | zero=>rfl
 | succ n ih=>rw [List.replicate_succ,lV,bI,ih];rfl
theorem rep_nil {α:Type} (n:Nat):rep ([]:List α) n=[]:=by
 induction n with
 | zero=>rfl
 | succ n ih=>exact ih
theorem gives_mul_empty {n:Int} {t u:Tok} (hlo:0≤n) (hn:n≤1048576):Gives (Builtin.«bytes.__mul__» ⟨[.bytes #[] t,.int n u],[]⟩) (.val (.bytes #[] t)):=by
 have hf:Builtin.Bytes.fitsIndex n=true:=by
  simp only [Builtin.Bytes.fitsIndex,hV,decide_eq_true_eq]
  exact ⟨cW (by decide) hlo,pL hn (by decide)⟩
 refine .of_wp fun M A E s Q hq=>?_
 show wpAny M A (Builtin.Bytes.repeatArgs .bytes "__mul__" ⟨[.bytes #[] t,.int n u],[]⟩ >>=fun r=>_) _ E s
 refine aC (dA (BMul.args_eq hf) ?_)
 refine aC (dA (a:=#[]) rfl ?_)
 have e1:(#[]:Array UInt8).size*n.toNat=0:=by simp
 rw [if_neg (by rw [e1];exact Nat.not_lt_zero _)]
 refine bm_if_true (by rw [e1];rfl) ?_
 refine aC (wpAny_typeOf (eG s _ t) ?_)
 exact aC (kP (aI ⟨_,rfl,hq⟩))
theorem bytes_mul_empty {prog:Program} {w:World} {A:Around} {E:Value→Shared→Prop} {s:Shared} {n:Int} {t u:Tok} {Q:Value→Shared→Prop} (hlo:0≤n) (hn:n≤1048576) (h:Q (.bytes #[] t) s):
  wpAny (model prog w) A (binaryOp .Mult (.bytes #[] t) (.int n u)) Q E s:=
 wpAny_binaryOp_repeat (T:= "bytes") (U:= "int") (by decide) (fun s'=>eG s' _ t) (fun s'=>typeIs_int s' n u) BMul.noFill F.fills_int_mul F.slot_int_rmul BMul.repeats F.slot_int_index.lookup
  (call_gives F.slot_int_rmul (typeIs_int s n u) F.entry_int_rmul (F.args_int_rmul_2 _ _) (BMul.int_declines n u _ t)
   ⟨rfl,call_gives BMul.slot_mul (eG s _ t) BMul.entry_mul (BMul.args_mul _ _) (gives_mul_empty hlo hn) h⟩)
theorem add_tuples {prog:Program} {w:World} {A:Around} {E:Value→Shared→Prop} {s:Shared} {t b:Addr} {items items2:Array Value} {n n2:Nat} {Q:Value→Shared→Prop} (ht:IsT s.heap t items n) (hb:IsT s.heap b items2 n2)
  (h0:items.isEmpty=true→Q (.ref b) s) (h1:items2.isEmpty=true→Q (.ref t) s) (h2:Q (.ref s.heap.objs.size) {s with heap:=s.heap.push {cls:=.type "tuple",data:=.seq (items++items2)}}) (hsz:items.size+items2.size≤sizeLine):
  wpAny (model prog w) A (binaryOp .Add (.ref t) (.ref b)) Q E s:=by
 by_cases e1:items.isEmpty=true
 ·exact concat_meets ⟨_,ht,rfl⟩ ⟨_,hb,rfl⟩ noFill_tuple_add seq_tuple_add F.slot_tuple_add F.entry_tuple_add (F.args_tuple_add_2 _ _) (AutoSeq1.tuple___add___tuple_tuple_0 t items n b items2 n2 e1) ⟨ht,hb,h0 e1⟩
 ·by_cases e2:items2.isEmpty=true
  ·exact concat_meets ⟨_,ht,rfl⟩ ⟨_,hb,rfl⟩ noFill_tuple_add seq_tuple_add F.slot_tuple_add F.entry_tuple_add (F.args_tuple_add_2 _ _) (AutoSeq1.tuple___add___tuple_tuple_1 t items n b items2 n2 e1 e2) ⟨ht,hb,h1 e2⟩
  ·exact P.add_tuple ht hb e1 e2 h2 hsz
theorem PQ.push {C:Cx} {Γ:Fx} {ρ:dI} {σ:aN} {m:Lo} {s:Shared} {Q:V→aN→Prop} {o:Obj} {v:Value} {v':V} {t:Nat} (I:cO C Γ ρ σ m s) (r:VR (s.heap.push o) ρ v v') (q:Q v' σ):PQ C Γ ρ m s Q v {s with heap:=s.heap.push o,toks:=t}:=
 have k:∀b x,s.heap.get? b=some x→(s.heap.push o).get? b=some x:=fun b x e=>Heap.get?_push_of_some _ e
 ⟨ρ,σ,v',.refl _ _,(.of_keeps k),I.more k,r,q⟩
theorem PQ.list {C:Cx} {Γ:Fx} {ρ:dI} {σ:aN} {m:Lo} {s:Shared} {Q:V→aN→Prop} {xs:Array Value} {vs:List V} {t:Nat} (I:cO C Γ ρ σ m s) (z:vs.length≤lim) (r:gQ s.heap ρ xs.toList vs) (q:Q (.obj σ.length) (σ++[.list vs])):
  PQ C Γ ρ m s Q (.ref s.heap.objs.size) {s with heap:=s.heap.push {cls:=.type "list",data:=.seq xs},toks:=t}:=by
 have k:∀b x,s.heap.get? b=some x→(s.heap.push {cls:=.type "list",data:=.seq xs}).get? b=some x:=fun b x e=>Heap.get?_push_of_some _ e
 have g:∀(i:Nat) p,ρ[i]? =some p→(ρ++[(s.heap.objs.size,s.heap.objs.size)])[i]? =some p:=fun i p e=>by rw [bT (aX.mp e).1];exact e
 refine ⟨ρ++[(s.heap.objs.size,s.heap.objs.size)],σ++[.list vs],.obj σ.length,⟨_,rfl,fun p hp=>by rw [bJ] at hp;subst hp;exact ⟨eB _,eB _⟩⟩,.of_keeps k,
  I.new (ao:=.list vs) k ⟨rfl,xs,0,Heap.get?_push_size _ rfl,by rw [←r.length,gY] at z;exact z,r.mono (.of_keeps k) g⟩ (eB _) (eB _),.obj (d:=s.heap.objs.size) ?_,q⟩
 rw [←I.len];simp
theorem cO.list {C:Cx} {Γ:Fx} {ρ:dI} {σ:aN} {m:Lo} {s:Shared} (I:cO C Γ ρ σ m s) {i:Nat} {a d:Addr} {vs:List V} (hi:ρ[i]? =some (a,d)) (hs:σ[i]? =some (.list vs)):∃xs n,IsL s.heap a xs n∧xs.size≤lim∧gQ s.heap ρ xs.toList vs:=by
 refine hide fun Gx hGx=>?_
 obtain ⟨_,xs,n,e,z,r⟩:=I.obj i _ _ hi hs
 refine hGx ?_
 exact ⟨xs,n,e,z,r⟩
theorem gQ.size {h:Heap} {ρ:dI} {xs:Array Value} {vs:List V} (r:gQ h ρ xs.toList vs):xs.size=vs.length:=by rw [←r.length,gY]
section
variable {h:Heap} {ρ:dI} {y:Value} {P:Value→Prop}
noncomputable def VRd (h:Heap) (ρ:dI) (y:Value):V→Prop
 | .none=>y=.none
 | .bool b=>y=.bool b
 | .int i=>∃t,y=.int i t
 | .str=>∃x t,y=.str x t
 | .bytes l=>∃b t,y=.bytes b t∧b.size≤lim∧b.toList.map (·.toNat)=l
 | .tup l=>∃a xs n,y=.ref a∧h.get? a=some {cls:=.type "tuple",data:=.seq xs n}∧xs.size≤lim∧gQ h ρ xs.toList l
 | .obj i=>∃a d,y=.ref a∧ρ[i]? =some (a,d)
 | _=>False
theorem VR.inv {v:V} (r:VR h ρ y v):VRd h ρ y v:=
 VR.casesOn (motive_1:=fun y v _=>VRd h ρ y v) r rfl (fun _=>rfl) (fun _ t=>⟨t,rfl⟩) (fun x t=>⟨x,t,rfl⟩) (fun b t z=>⟨b,t,rfl,z,rfl⟩) (fun a b c=>⟨_,_,_,rfl,a,b,c⟩) fun a=>⟨_,_,rfl,a⟩
theorem VR.inv_none (r:VR h ρ y .none):y=.none:=r.inv
theorem VR.inv_bool {b:Bool} (r:VR h ρ y (.bool b)):y=.bool b:=r.inv
theorem VR.inv_int {i:Int} (r:VR h ρ y (.int i)):∃t,y=.int i t:=r.inv
theorem VR.inv_str (r:VR h ρ y .str):∃x t,y=.str x t:=r.inv
theorem VR.inv_bytes {l:List Nat} (r:VR h ρ y (.bytes l)):∃b t,y=.bytes b t∧b.size≤lim∧b.toList.map (·.toNat)=l:=r.inv
theorem VR.inv_tup {l:List V} (r:VR h ρ y (.tup l)):∃a xs n,y=.ref a∧h.get? a=some {cls:=.type "tuple",data:=.seq xs n}∧xs.size≤lim∧gQ h ρ xs.toList l:=r.inv
theorem VR.inv_obj {i:Nat} (r:VR h ρ y (.obj i)):∃a d,y=.ref a∧ρ[i]? =some (a,d):=r.inv
theorem VR.e_none (r:VR h ρ y .none) (k:P .none):P y:=r.inv_none▸k
theorem VR.e_bool {b:Bool} (r:VR h ρ y (.bool b)) (k:P (.bool b)):P y:=r.inv_bool▸k
theorem VR.e_int {i:Int} (r:VR h ρ y (.int i)) (k:∀t,P (.int i t)):P y:=r.inv_int.elim fun t e=>e▸k t
theorem VR.e_bytes {l:List Nat} (r:VR h ρ y (.bytes l)) (k:∀b t,b.size≤lim→b.toList.map (·.toNat)=l→P (.bytes b t)):P y:=by
 obtain ⟨b,t,e,z,q⟩:=r.inv_bytes
 exact e▸k b t z q
theorem VR.e_tup {l:List V} (r:VR h ρ y (.tup l)) (k:∀a xs n,h.get? a=some {cls:=.type "tuple",data:=.seq xs n}→xs.size≤lim→gQ h ρ xs.toList l→P (.ref a)):P y:=by
 obtain ⟨a,xs,n,e,g,z,q⟩:=r.inv_tup
 exact e▸k a xs n g z q
theorem VR.e_obj {i:Nat} (r:VR h ρ y (.obj i)) (k:∀a d,ρ[i]? =some (a,d)→P (.ref a)):P y:=by
 obtain ⟨a,d,e,g⟩:=r.inv_obj
 exact e▸k a d g
end
theorem j1:lim≤sizeLine:=by rw [nJ];exact bG rfl
theorem nos {α:Type} {b:α} {G:Prop} (h:(none:Option α)=some b):G:=nomatch h
noncomputable def opOf:BOp→Operator
 | .add=>.Add | .sub=>.Sub | .mul=>.Mult | .fdiv=>.FloorDiv | .mod=>.Mod | .pow=>.Pow | .band=>.BitAnd | .bor=>.BitOr | .shl=>.LShift | .shr=>.RShift
theorem lim1 {n:Nat} (h:n≤lim):n≤1048576:=h
section
variable {Γ:Fx} {ρ:dI} {σ:aN} {m:Lo} {s:Shared} {x y:Value} {Q:V→aN→Prop} {E:Value→Shared→Prop} (I:cO C Γ ρ σ m s)
include I
theorem bin_mulB {b:List Nat} {n:Nat} (ra:VR s.heap ρ x (.bytes b)) (rb:VR s.heap ρ y (.int n)) (h2:n≤lim) (h3:b.length≤16) (h4:b.length*n≤lim) (q:Q (.bytes (rep b n)) σ):wpAny C.M Γ.A (binaryOp .Mult x y) (PQ C Γ ρ m s Q) E s:=by
 apply ra.e_bytes;intro a t _ e
 apply rb.e_int;intro u
 subst e
 obtain ⟨l⟩:=a
 have h2':(n:Int)≤1048576:=cC.mpr h2
 have hl:(l.map (·.toNat)).length=l.length:=aK _
 by_cases e:l=[]
 ·subst e
  refine bytes_mul_empty (aV n) h2' (.here I (VR.bytes #[] t (cV _)) ?_)
  rw [show rep (List.map (·.toNat) ([]:List UInt8)) n=[] from rep_nil n] at q;exact q
 ·refine bytes_mul_any e (cW (by decide) (aV n)) h2' (hl▸h3) fun t' k=>.tk I (VR.bytes _ _ ?_) ?_
  ·rw [dJ]
   have e:=congrArg List.length (rep_flatten l n)
   rw [aK,rep_length] at e
   rw [hl] at e h4
   exact aA (cP e) h4
  ·rw [dJ]
   rw [rep_flatten];exact q
theorem bin_addT {a b:List V} (ra:VR s.heap ρ x (.tup a)) (rb:VR s.heap ρ y (.tup b)) (h:a.length+b.length≤lim) (q:Q (.tup (a++b)) σ):wpAny C.M Γ.A (binaryOp .Add x y) (PQ C Γ ρ m s Q) E s:=by
 apply ra.e_tup;intro a xs n e z1 r
 apply rb.e_tup;intro b ys n' e' z2 r'
 have h':xs.size+ys.size≤lim:=by rw [r.size,r'.size];exact h
 have k:=Imm.of_keeps (h:=s.heap) (h':=s.heap.push {cls:=.type "tuple",data:=.seq (xs++ys)}) fun b x e=>Heap.get?_push_of_some _ e
 refine add_tuples e e' (fun z=>.here I (.tup e' z2 r') ?_) (fun z=>.here I (.tup e z1 r) ?_) (.push I (.tup (n:=0) (Heap.get?_push_size _ rfl) (by rw [Array.size_append];exact h') (by rw [oQ];exact (r.mono k fun _ _ e=>e).append (r'.mono k fun _ _ e=>e))) q) (aA h' j1)
 ·rw [nN (r.size.symm.trans (Array.isEmpty_iff_size_eq_zero.mp z))] at q;exact q
 ·rw [nN (r'.size.symm.trans (Array.isEmpty_iff_size_eq_zero.mp z)),bF] at q;exact q
theorem bin_sound {op:Operator} {o:BOp} {a b:V} (ho:op=opOf o) (ra:VR s.heap ρ x a) (rb:VR s.heap ρ y b) (q:mQ o a b σ Q):wpAny C.M Γ.A (binaryOp op x y) (PQ C Γ ρ m s Q) E s:=by
 subst ho
 induction q with
 | add q=>
  apply ra.e_int;intro t
  apply rb.e_int;intro u
  exact add_int (.tk I (.int _ _) q)
 | sub q=>
  apply ra.e_int;intro t
  apply rb.e_int;intro u
  exact sub_int (.tk I (.int _ _) q)
 | mul h q=>
  apply ra.e_int;intro t
  apply rb.e_int;intro u
  exact mul_int (.tk I (.int _ _) q) (h.elim (fun h=>.of_left (intBits_le h)) fun h=>.of_right (intBits_le h))
 | div h l q=>
  apply ra.e_int;intro t
  apply rb.e_int;intro u
  exact PyProof.Rows.floordiv_int (Int.ne_of_gt h) (.tk I (.int _ _) (by rw [pM _ (eZ h)];exact q)) (.inl (PyProof.noPylong_of_log2 (dD ((Nat.log2_lt (Int.natAbs_ne_zero.mpr (Int.ne_of_gt h))).mpr l) (by decide))))
 | mod h q=>
  apply ra.e_int;intro t
  apply rb.e_int;intro u
  exact PyProof.Rows.mod_int (Int.ne_of_gt h) (.tk I (.int _ _) (by rw [Int.fmod_eq_emod_of_nonneg _ (eZ h)];exact q))
 | pow h l z q=>
  apply ra.e_int;intro t
  apply rb.e_int;intro u
  exact pow_int_small h (cW l (by decide)) z (.tk I (.int _ _) q)
 | and q=>
  apply ra.e_int;intro t
  apply rb.e_int;intro u
  exact and_int (.tk I (.int _ _) (by rw [bitAnd_nat (aV _) (aV _)];exact q))
 | or q=>
  apply ra.e_int;intro t
  apply rb.e_int;intro u
  exact or_int (.tk I (.int _ _) (by rw [bitOr_nat (aV _) (aV _)];exact q))
 | shl h l z q=>
  apply ra.e_int;intro t
  apply rb.e_int;intro u
  exact lshift_int_small h (cW l (by decide)) z (.tk I (.int _ _) q)
 | shr h q=>
  apply ra.e_int;intro t
  apply rb.e_int;intro u
  exact rshift_int h (.tk I (.int _ _) (by rw [pM _ (eZ (Int.pow_pos (by decide)))];exact q))
 | addF q=>
  apply ra.e_bool
  apply rb.e_int;intro u
  exact PySem.IntBool.add_bool_int (.tk I (.int _ _) q)
 | addB h q=>
  apply ra.e_bytes;intro b t _ e
  apply rb.e_bytes;intro c u _ e'
  subst e
  subst e'
  rw [iP,iP] at h
  exact KBy.add_bytes (aA h (by decide)) fun t' k=>.tk I (VR.bytes _ _ (by rw [Array.size_append];exact h)) (by rw [oQ,bI];exact q)
 | mulB h l z q=>exact bin_mulB I ra rb h l z q
 | addT h q=>exact bin_addT I ra rb h q
 | addL h1 h2 h q=>
  apply ra.e_obj;intro a d hi
  apply rb.e_obj;intro b d' hj
  refine hide fun Gx hGx=>?_
  obtain ⟨xs,n,e,_,r⟩:=I.list hi h1
  obtain ⟨ys,n',e',_,r'⟩:=I.list hj h2
  refine hGx ?_
  exact P.add_list e e' (.list I (by rw [aF];exact h) (by rw [oQ];exact r.append r') q) (by rw [r.size,r'.size];exact aA h j1)
end
theorem SE_bin {l op r pos o a b} (ho:op=opOf o) (hl:SE C d sc vars l a) (hr:SE C d sc vars r b):SE C d sc vars (.BinOp l op r pos) (.bin o a b):=fun Γ ρ σ m s Q X W S hv I q=>by
 refine wpG_BinOp (aO (hl Γ ρ σ m s _ X W S hv I q) (fun x s₁ h=>?_) fun _ _ h=>h)
 obtain ⟨ρ₁,σ₁,v₁,g₁,k₁,I₁,r₁,q₁⟩:=h
 refine aO (hr Γ ρ₁ σ₁ m s₁ _ X W S hv I₁ q₁) (fun y s₂ h=>?_) fun _ _ h=>h.after g₁ k₁
 obtain ⟨ρ₂,σ₂,v₂,g₂,k₂,I₂,r₂,q₂⟩:=h
 exact bQ (bin_sound I₂ ho (r₁.mono (I₁.imm k₂) fun _ _ e=>g₂.get e) r₂ q₂) (fun _ _ h=>(h.after g₂ k₂).after g₁ k₁) fun _ _ h=>h
end
end Internal
end
section
namespace Internal
open PySem PySem.W PySem.Calls PyProof.Rows
noncomputable def GV.toV:GV→V
 | .int i=>.int i
 | .bytes b=>.bytes b
theorem globV_eq {k:Nat} {v:V} (h:globV k=some v):∃y,globTab[k]? =some y∧v=y.2.toV:=by
 unfold globV at h
 obtain ⟨y,hy,rfl⟩:=fK.mp h
 refine ⟨(Str.ofString y.1,y.2),by simp [globTab,hy],?_⟩
 cases y.2 <;> rfl
structure ClsOk (C:Cx) (c:Cls):Prop where
 get:findIn C.K (.ref (C.clsA c)) "__getattribute__" =some (some (.builtin "object.__getattribute__"))
 noAttr:findIn C.K (.ref (C.clsA c)) "__getattr__" =some none
 set:findIn C.K (.ref (C.clsA c)) "__setattr__" =some (some (.builtin "object.__setattr__"))
 over:plainOver C.K (C.clsA c)=true
 dict:hasDictIn C.K (C.clsA c)=true
 name:∀n:At,findIn C.K (.ref (C.clsA c)) n.name=some none
 taker:∀n:At,takerIn C.K (C.clsA c) n.name=some none
 meth:∀m f,methOf c m=some f→findIn C.K (.ref (C.clsA c)) m.name=some (some (.ref (C.fnA f)))∧isFn C.K (.ref (C.fnA f))=true
structure Cx.Ok (C:Cx):Prop where
 kin:C.K.In C.h₀
 mgNs:C.h₀.Ns mainGlobals C.mg
 mbNs:C.h₀.Ns builtinsNs C.mb
 glob:∀(k:Nat) y,globTab[k]? =some y→∃u,C.mg y.1=some u∧∀h ρ,VR h ρ u y.2.toV
 cls:∀c,ClsOk C c
section
variable {C:Cx} {d:Nat} {sc:Scope} {vars:List Str} {Γ:Fx} {ρ:dI} {σ:aN} {m:Lo} {s:Shared}
theorem cO.mg (O:C.Ok) (I:cO C Γ ρ σ m s):s.heap.Ns mainGlobals C.mg:=Heap.Ns.slots O.mgNs fun o e=>⟨o.slots,I.base _ _ e⟩
theorem cO.mb (O:C.Ok) (I:cO C Γ ρ σ m s):s.heap.Ns builtinsNs C.mb:=Heap.Ns.slots O.mbNs fun o e=>⟨o.slots,I.base _ _ e⟩
theorem cO.kin (O:C.Ok) (I:cO C Γ ρ σ m s):C.K.In s.heap:=O.kin.keeps I.base
theorem glob_load {x:Str} {v:Value} {M:Model} {Q:Value→Shared→Prop} {E:Value→Shared→Prop} (O:C.Ok) (W:Γ.Wf d) (I:cO C Γ ρ σ m s) (hx:Γ.env.kindOf x=some .globalImplicit) (hv:C.mg x=some v) (h:Q v s):
  wpAny M Γ.A (loadName Γ.env x) Q E s:=ks_loadName_global W.kind hx (loadGlobal_global (W.glob▸I.mg O) hv h)
theorem blt_load {x:Str} {v:Value} {M:Model} {Q:Value→Shared→Prop} {E:Value→Shared→Prop} (O:C.Ok) (W:Γ.Wf d) (I:cO C Γ ρ σ m s) (hx:Γ.env.kindOf x=some .globalImplicit) (hm:C.mg x=none) (hv:C.mb x=some v) (h:Q v s):
  wpAny M Γ.A (loadName Γ.env x) Q E s:=ks_loadName_global W.kind hx (loadGlobal_builtin (W.glob▸I.mg O) hm (W.blt▸I.mb O) hv h)
theorem SE_glob (O:C.Ok) {x:Str} {pos:Pos} {k:Nat} (hg:gC sc x=true) (hk:idxOf x (globTab.map (·.1))=some k):SE C d sc vars (.Name x pos) (.glob k):=fun Γ ρ σ m s Q X W S hv I q=>by
 obtain ⟨v,hv,q⟩:=optP_ex q
 obtain ⟨y,hy,rfl⟩:=globV_eq hv
 have hx:=idxOf_get hk
 rw [gL,hy] at hx
 obtain rfl:y.1=x:=by simpa using hx
 obtain ⟨u,hu,r⟩:=O.glob k y hy
 exact lF (glob_load O W I (S.glob _ hg) hu (.here I (r _ _) q)) (dY (iJ hg))
theorem nT {P:Int→Prop}:∀{v:V},intQ P v→∃i,v=.int i∧P i
 | .int i,h=>⟨i,rfl,h⟩
theorem SE_neg {a ma pos} (h:SE C d sc vars a ma):SE C d sc vars (.UnaryOp .USub a pos) (.neg ma):=fun Γ ρ σ m s Q X W S hv I q=>by
 refine wpG_UnaryOp (aO (h Γ ρ σ m s _ X W S hv I q) (fun v s₁ h=>?_) fun _ _ h=>h)
 obtain ⟨ρ₁,σ₁,v₁,g₁,k₁,I₁,r₁,q₁⟩:=h
 obtain ⟨i,rfl,q₁⟩:=nT q₁
 obtain ⟨t,rfl⟩:=r₁.inv_int
 exact neg_int ((PQ.tk I₁ (.int _ _) q₁).after g₁ k₁)
theorem octs_inj {b c:Array UInt8} (e:b.toList.map (·.toNat)=c.toList.map (·.toNat)):b=c:=by
 refine Array.toList_inj.mp ((List.map_inj_right fun x y e=>?_).mp e)
 exact UInt8.toNat_inj.mp e
theorem eqAt_same {h:Heap} {ρ:dI}:∀(n:Nat) {x y:Value} {v:V},V.pure n v=true→VR h ρ x v→VR h ρ y v→∀(A:Around) (s:Shared),s.heap=h→A.units+n < cLine→SeqAt.EqAt A s x y true:=by
 intro n x y v
 induction n generalizing x y v with
 | zero=>
  intro hp rx ry A s hs hu
  cases v <;> (try exact absurd hp pO)
  ·rw [rx.inv_none,ry.inv_none];exact SeqAt.EqAt.same _
  ·rw [rx.inv_bool,ry.inv_bool];exact SeqAt.EqAt.same _
  ·obtain ⟨t,rfl⟩:=rx.inv_int;obtain ⟨u,rfl⟩:=ry.inv_int
   have:=SeqAt.EqAt.int_int (A:=A) (s:=s) ‹Int› t ‹Int› u
   rwa [beq_self_eq_true] at this
  ·obtain ⟨b,t,rfl,_,e⟩:=rx.inv_bytes;obtain ⟨c,u,rfl,_,e'⟩:=ry.inv_bytes
   obtain rfl:=octs_inj (e.trans e'.symm)
   intro prog w E Q hq
   unfold eqBool
   refine gN ?_
   refine wpAny_ite_split (fun _=>aC (kP (aI hq))) (fun _=>?_)
   exact aC (show wpAny _ _ (compareOp .Eq _ _) _ _ _ from eq_bytes (wpAny_truthy_bool (by rw [beq_self_eq_true];exact hq)))
 | succ n ih=>
  intro hp rx ry A s hs hu
  cases v <;> (try exact absurd hp pO)
  ·rw [rx.inv_none,ry.inv_none];exact SeqAt.EqAt.same _
  ·rw [rx.inv_bool,ry.inv_bool];exact SeqAt.EqAt.same _
  ·obtain ⟨t,rfl⟩:=rx.inv_int;obtain ⟨u,rfl⟩:=ry.inv_int
   have:=SeqAt.EqAt.int_int (A:=A) (s:=s) ‹Int› t ‹Int› u
   rwa [beq_self_eq_true] at this
  ·obtain ⟨b,t,rfl,_,e⟩:=rx.inv_bytes;obtain ⟨c,u,rfl,_,e'⟩:=ry.inv_bytes
   obtain rfl:=octs_inj (e.trans e'.symm)
   intro prog w E Q hq
   unfold eqBool
   refine gN ?_
   refine wpAny_ite_split (fun _=>aC (kP (aI hq))) (fun _=>?_)
   exact aC (show wpAny _ _ (compareOp .Eq _ _) _ _ _ from eq_bytes (wpAny_truthy_bool (by rw [beq_self_eq_true];exact hq)))
  ·obtain ⟨a,xs,k,rfl,e,z,l⟩:=rx.inv_tup
   obtain ⟨b,ys,k',rfl,e',z',l'⟩:=ry.inv_tup
   by_cases hab:a=b
   ·subst hab;exact SeqAt.EqAt.same _
   refine SeqAt.EqAt.of_refs hab ?_
   have hz:xs.size=ys.size:=by rw [l.size,l'.size]
   subst hs
   have:=SeqAt.RcAt.tuples (A:=A) (s:=s) (items:=xs) (items2:=ys) (e:=fun _=>true) ⟨_,e,rfl,k,rfl⟩ ⟨_,e',rfl,k',rfl⟩ (by omega) fun j h1 h2=>?_
   ·rw [show (List.range (min xs.size ys.size)).all (fun _=>true)=true from cF.mpr fun _ _=>rfl,hz,beq_self_eq_true] at this
    exact this
   ·have hj:=c5 (l:=_) (by rw [←l.size];exact h1)
    obtain ⟨u,hu1,ru⟩:=l.get hj
    obtain ⟨u',hu2,ru'⟩:=l'.get hj
    rw [dB,gG h1] at hu1
    rw [dB,gG h2] at hu2
    cases hu1;cases hu2
    refine ih ?_ ru ru' A.in1 s rfl (by show A.units+1+n < cLine;rw [cZ];exact hu)
    exact cF.mp hp _ (a7 hj)
end
end Internal
end
section
namespace Internal
open PySem PySem.W PySem.Calls PyProof.Rows Builtin
namespace FL
theorem slot_lt:Slot "bytes" (cmpInfo .Lt).2.1 "bytes.__lt__" :=
 .of (owner:= "bytes") (n:= "__lt__") (by rw [dG,b7];kernel_rfl) (by decide+kernel) (by decide+kernel) (by decide+kernel)
  (by first | exact .inl (by decide+kernel) | exact .inr (by decide+kernel)) (by rw [lP];kernel_rfl)
theorem entry_lt:entryFor table "bytes.__lt__" =some Builtin.«bytes.__lt__»:=entryFor_of_tree (by kernel_rfl)
theorem args_lt (a b:Value):argsOk "bytes.__lt__" ⟨[a,b],[]⟩:=by
 unfold argsOk;rw [signature?_of (id:= "bytes.__lt__") (n:=['_','_','t','l','_','_']) (o:=['s','e','t','y','b']) (by kernel_rfl) FB.owner_bytes];kernel_rfl
end FL
theorem gives_bytes_lt (b c:Array UInt8) (t u:Tok):Gives («bytes.__lt__» ⟨[.bytes b t,.bytes c u],[]⟩) (.val (.bool (Bytes.order b.toList c.toList==.lt))):=by
 refine .of_wp fun M A E s Q hq=>?_
 show wpAny M A (isInstance (.bytes c u) (.type "bytes") >>=fun r=>_) _ E s
 refine aC (mR (eG s c u) F.sub_bytes_bytes ?_)
 exact aI ⟨_,rfl,hq⟩
theorem order_lt (a:List UInt8):∀b:List UInt8,(Bytes.order a b==.lt)=ltB (a.map (·.toNat)) (b.map (·.toNat)):=by
 induction a with
 | nil=>exact fun b=>List.casesOn b rfl fun _ _=>rfl
 | cons x a ih=>
  refine fun b=>List.casesOn b rfl fun y b=>?_
  show ((if x < y then .lt else if x > y then .gt else Bytes.order a b)==Ordering.lt)=if x.toNat < y.toNat then true else if y.toNat < x.toNat then false else ltB (a.map (·.toNat)) (b.map (·.toNat))
  by_cases h1:x.toNat < y.toNat
  ·rw [if_pos h1,if_pos (mI.mpr h1)];rfl
  ·rw [if_neg h1,if_neg fun q=>h1 (mI.mp q)]
   by_cases h2:y.toNat < x.toNat
   ·rw [if_pos h2,if_pos (mI.mpr h2)];rfl
   ·rw [if_neg h2,if_neg fun q=>h2 (mI.mp q)];exact ih b
section
variable {C:Cx} {d:Nat} {sc:Scope} {vars:List Str} {Γ:Fx} {ρ:dI} {σ:aN} {m:Lo} {s:Shared}
inductive CQ (s:Shared) (k:Bool→Prop) (v:Value) (s':Shared):Prop
 | mk (c:Bool) (t:Nat) (h1:v=.bool c) (h2:s'={s with toks:=t}) (h3:k c)
theorem CQ.here {s:Shared} {k:Bool→Prop} {c:Bool} (h:k c):CQ s k (.bool c) s:=⟨c,s.toks,rfl,rfl,h⟩
theorem all_true (n:Nat):(List.range n).all (fun _=>true)=true:=cF.mpr fun _ _=>rfl
theorem seq_same {n:Nat} {xs ys:Array Value} {vs:List V} (hp:vs.all (V.pure n)=true) (l:gQ s.heap ρ xs.toList vs) (l':gQ s.heap ρ ys.toList vs) {A:Around} (hu:A.units+n < cLine):
  ∀j (h1:j < xs.size) (h2:j < ys.size),SeqAt.EqAt A s xs[j] ys[j] true:=fun j h1 h2=>by
 have hj:=c5 (l:=vs) (by rw [←l.size];exact h1)
 obtain ⟨u,hu1,ru⟩:=l.get hj
 obtain ⟨u',hu2,ru'⟩:=l'.get hj
 rw [dB,gG h1] at hu1
 rw [dB,gG h2] at hu2
 cases hu1;cases hu2
 rw [cF] at hp
 exact eqAt_same n (hp _ (a7 hj)) ru ru' A s rfl hu
theorem eq_pure {a:V} {x y:Value} {A:Around} {E:Value→Shared→Prop} {k:Bool→Prop} (hp:V.pure 20 a=true) (rx:VR s.heap ρ x a) (ry:VR s.heap ρ y a) (hu:A.units+100 < cLine) (h:k true):wpAny C.M A (compareOp .Eq x y) (CQ s k) E s:=by
 cases a <;> first | exact bfE hp | skip
 ·rw [rx.inv_none,ry.inv_none];exact SeqAt.RcAt.none_none _ _ _ _ (.here h)
 ·rw [rx.inv_bool,ry.inv_bool];exact SeqAt.RcAt.bool_bool _ _ _ _ _ _ (.here (by rw [beq_self_eq_true];exact h))
 ·obtain ⟨t,rfl⟩:=rx.inv_int;obtain ⟨u,rfl⟩:=ry.inv_int
  exact eq_int (.here (by rw [beq_self_eq_true];exact h))
 ·obtain ⟨b,t,rfl,_,e⟩:=rx.inv_bytes;obtain ⟨c,u,rfl,_,e'⟩:=ry.inv_bytes
  obtain rfl:=octs_inj (e.trans e'.symm)
  exact eq_bytes (.here (by rw [beq_self_eq_true];exact h))
 ·obtain ⟨a,xs,k',rfl,e,z,l⟩:=rx.inv_tup
  obtain ⟨b,ys,k'',rfl,e',z',l'⟩:=ry.inv_tup
  have hz:xs.size=ys.size:=by rw [l.size,l'.size]
  refine SeqAt.RcAt.tuples (e:=fun _=>true) ⟨_,e,rfl,_,rfl⟩ ⟨_,e',rfl,_,rfl⟩ (by omega) (seq_same (n:=19) hp l l' (aS (aU (A.units+1+19) 80) hu)) _ _ _ _ (.here ?_)
  rw [all_true,hz,beq_self_eq_true];exact h
theorem ne_pure {a:V} {x y:Value} {A:Around} {E:Value→Shared→Prop} {k:Bool→Prop} (hp:V.pure 20 a=true) (rx:VR s.heap ρ x a) (ry:VR s.heap ρ y a) (hu:A.units+100 < cLine) (h:k false):wpAny C.M A (compareOp .NotEq x y) (CQ s k) E s:=by
 cases a <;> first | exact bfE hp | skip
 ·rw [rx.inv_none,ry.inv_none];exact SeqAt.RcNeAt.none_none _ _ _ _ (.here h)
 ·rw [rx.inv_bool,ry.inv_bool];exact SeqAt.RcNeAt.bool_bool _ _ _ _ _ _ (.here (by rw [beq_self_eq_true];exact h))
 ·obtain ⟨t,rfl⟩:=rx.inv_int;obtain ⟨u,rfl⟩:=ry.inv_int
  exact ne_int (.here (by rw [bne_self_eq_false];exact h))
 ·obtain ⟨b,t,rfl,_,e⟩:=rx.inv_bytes;obtain ⟨c,u,rfl,_,e'⟩:=ry.inv_bytes
  obtain rfl:=octs_inj (e.trans e'.symm)
  exact ne_bytes (.here (by rw [bne_self_eq_false];exact h))
 ·obtain ⟨a,xs,k',rfl,e,z,l⟩:=rx.inv_tup
  obtain ⟨b,ys,k'',rfl,e',z',l'⟩:=ry.inv_tup
  have hz:xs.size=ys.size:=by rw [l.size,l'.size]
  refine SeqAt.RcNeAt.tuples (e:=fun _=>true) ⟨_,e,rfl,_,rfl⟩ ⟨_,e',rfl,_,rfl⟩ (by omega) (seq_same (n:=19) hp l l' (aS (aU (A.units+1+19) 80) hu)) _ _ _ _ (.here ?_)
  rw [all_true,hz,beq_self_eq_true];exact h
noncomputable def cmpOf:COp→CmpOp
 | .eq=>.Eq | .ne=>.NotEq | .lt=>.Lt | .le=>.LtE | .gt=>.Gt | .ge=>.GtE | .is=>.Is | .isNot=>.IsNot
theorem is_none {x:Value} {a:V} {A:Around} {E:Value→Shared→Prop} {k:Bool→Prop} (ra:VR s.heap ρ x a) (q:k (isNV a)):wpAny C.M A (compareOp .Is x .none) (CQ s k) E s:=
 VR.casesOn (motive_1:=fun x a _=>k (isNV a)→wpAny C.M A (compareOp .Is x .none) (CQ s k) E s) ra (fun q=>jH rfl (.here q)) (fun _ q=>jH rfl (.here q)) (fun _ _ q=>jH rfl (.here q)) (fun _ _ q=>jH rfl (.here q)) (fun _ _ _ q=>jH rfl (.here q)) (fun _ _ _ q=>jH rfl (.here q)) (fun _ q=>jH rfl (.here q)) q
theorem isn_none {x:Value} {a:V} {A:Around} {E:Value→Shared→Prop} {k:Bool→Prop} (ra:VR s.heap ρ x a) (q:k (!isNV a)):wpAny C.M A (compareOp .IsNot x .none) (CQ s k) E s:=
 VR.casesOn (motive_1:=fun x a _=>k (!isNV a)→wpAny C.M A (compareOp .IsNot x .none) (CQ s k) E s) ra (fun q=>gI rfl (.here q)) (fun _ q=>gI rfl (.here q)) (fun _ _ q=>gI rfl (.here q)) (fun _ _ q=>gI rfl (.here q)) (fun _ _ _ q=>gI rfl (.here q)) (fun _ _ _ q=>gI rfl (.here q)) (fun _ q=>gI rfl (.here q)) q
theorem lt20 {a b n:Nat} (h:a+100 < b) (q:Nat.ble n 100=true):a+n < b:=aS (aT (bG q) a) h
theorem cmp_sound {op:CmpOp} {o:COp} {x y:Value} {a b:V} {k:Bool→Prop} {E:Value→Shared→Prop} (I:cO C Γ ρ σ m s) (hu:Γ.A.units+100 < cLine) (ho:op=cmpOf o) (ra:VR s.heap ρ x a) (rb:VR s.heap ρ y b) (q:wpCmp o a b σ k):
  wpAny C.M Γ.A (compareOp op x y) (CQ s k) E s:=by
 subst ho
 induction q with
 | is q=>exact rb.inv_none▸is_none ra q
 | isn q=>exact rb.inv_none▸isn_none ra q
 | eqI q=>apply ra.e_int;intro t;apply rb.e_int;intro u;exact eq_int (.here q)
 | neI q=>apply ra.e_int;intro t;apply rb.e_int;intro u;exact ne_int (.here q)
 | ltI q=>apply ra.e_int;intro t;apply rb.e_int;intro u;exact lt_int (.here q)
 | leI q=>apply ra.e_int;intro t;apply rb.e_int;intro u;exact le_int (.here q)
 | gtI q=>apply ra.e_int;intro t;apply rb.e_int;intro u;exact gt_int (.here q)
 | geI q=>apply ra.e_int;intro t;apply rb.e_int;intro u;exact ge_int (.here q)
 | ltB q=>
  apply ra.e_bytes;intro b t _ e;apply rb.e_bytes;intro c u _ e'
  subst e
  subst e'
  exact compareOp_gives (op:=.Lt) (eG s b t) (eG s c u) FL.slot_lt FL.entry_lt (FL.args_lt _ _) (gives_bytes_lt b c t u) (fun e=>nomatch e) (.here (by rw [order_lt];exact q))
 | eqL h1 h2 hp q=>
  apply ra.e_obj;intro l d1 hi;apply rb.e_obj;intro l' d2 hj
  obtain ⟨xs,n,e,_,r⟩:=I.list hi h1
  obtain ⟨ys,n',e',_,r'⟩:=I.list hj h2
  exact SeqAt.eq_listAt (e:=fun _=>true) ⟨_,e,rfl,_,rfl⟩ ⟨_,e',rfl,_,rfl⟩ (r.size.trans r'.size.symm) (lt20 (n:=0) hu rfl) (seq_same (n:=20) hp r r' (lt20 (n:=21) hu rfl)) (.here (by rw [all_true];exact q))
 | neL h1 h2 hp q=>
  apply ra.e_obj;intro l d1 hi;apply rb.e_obj;intro l' d2 hj
  obtain ⟨xs,n,e,_,r⟩:=I.list hi h1
  obtain ⟨ys,n',e',_,r'⟩:=I.list hj h2
  exact SeqAt.RcNeAt.lists (e:=fun _=>true) ⟨_,e,rfl,_,rfl⟩ ⟨_,e',rfl,_,rfl⟩ (r.size.trans r'.size.symm) (lt20 (n:=0) hu rfl) (seq_same (n:=20) hp r r' (lt20 (n:=21) hu rfl)) _ _ _ _ (.here (by rw [all_true];exact q))
 | eqP h q=>exact eq_pure h ra rb hu q
 | neP h q=>exact ne_pure h ra rb hu q
theorem emp_b (b:Array UInt8):((b.size:Int) !=0)=!(b.toList.map (·.toNat)).isEmpty:=by
 obtain ⟨l⟩:=b
 induction l with
 | nil=>rfl
 | cons a l=>rfl
theorem emp_l {xs:Array Value} {vs:List V} (h:xs.size=vs.length):(!xs.isEmpty)=!vs.isEmpty:=by
 rw [Array.isEmpty,h]
 cases vs <;> rfl
theorem truth_sound {x:Value} {a:V} {k:Bool→aN→Prop} {E:Value→Shared→Prop} (I:cO C Γ ρ σ m s) (r:VR s.heap ρ x a) (q:l7 a σ fun b=>k b σ):wpAny C.M Γ.A (truthy x) (PB C Γ ρ m s k) E s:=by
 induction q with
 | none q=>apply r.e_none;exact truthy_none (.here I q)
 | bool q=>apply r.e_bool;exact wpAny_truthy_bool (.here I q)
 | bytes q=>
  apply r.e_bytes;intro b t z e
  subst e
  exact truthy_bytes (aA z (by decide)) (.tk I (by rw [emp_b];exact q))
 | obj h q=>
  apply r.e_obj;intro l d hi
  obtain ⟨xs,n,e,z,r⟩:=I.list hi h
  exact wpAny_truthy_list ⟨_,e,rfl,_,rfl⟩ (pL (b:=1048576) (cC.mpr z) (by decide)) (.tk I (by rw [emp_l r.size];exact q))
end
end Internal
end
section
namespace Internal
open PySem PySem.W PySem.Calls PyProof.Rows Builtin
section
variable {C:Cx} {d:Nat} {sc:Scope} {vars:List Str} {Γ:Fx} {ρ:dI} {σ:aN} {m:Lo} {s:Shared}
theorem Fx.Wf.units (W:Γ.Wf d):Γ.A.units+100 < cLine:=aS (d9 (aU _ _) _) W.room.units
noncomputable def HeL (e:Expr) (rest:List Expr) (env:Env) (x:Value) (op:CmpOp) (o:Expr) (n:Str) (p:Pos) (l:Nat) (i:Expr) (ts:List Expr) (k:Nat):=
 (starEach (e::rest) env,foldedSetIterable e env x,behindInMarks op e,swapsWith e (some (.Attribute o n p)) l env,swapsWith e (some (.Subscript o i p)) l env,swapsWith e (some (.Tuple ts k p)) l env,
  swappedStores [.Name n p] e env,swappedStores [.Attribute o n p] e env,swappedStores [.Subscript o i p] e env)
noncomputable def HeR (e:Expr) (rest:List Expr) (env:Env) (x:Value) (_:CmpOp) (_:Expr) (_:Str) (_:Pos) (_:Nat) (_:Expr) (_:List Expr) (_:Nat):List (Bool×Sem Value)×Sem Value×Bool×Sem Bool×Sem Bool×Sem Bool×Sem (Option (List Str))×Sem (Option (List Str))×Sem (Option (List Str)):=
 ((false,eval e env)::starEach rest env,pure x,false,pure false,pure false,pure false,pure none,pure none,pure none)
noncomputable def hdB (e:Expr):Bool:=!(Nat.beq e.ctorIdx 7 || Nat.beq e.ctorIdx 22)
noncomputable def HE (e:Expr):Prop:=HeL e=HeR e
noncomputable def HeC (e:Expr):=cond (hdB e) (HeR e) (HeL e)
theorem HeL_eq (e:Expr):HeL e=HeC e:=by cases e <;> rfl
theorem HE.of {e:Expr} (h:hdB e=true):HE e:=by
 unfold HE
 rw [HeL_eq,HeC,h];rfl
section
variable {e:Expr} (h:HE e)
include h
theorem HE.star (rest:List Expr) (env:Env):starEach (e::rest) env=(false,eval e env)::starEach rest env:=congrArg (fun f=>(f rest env .none .Eq e k9 e.pos 0 e [] 0).1) h
theorem HE.fold (env:Env) (x:Value):foldedSetIterable e env x=pure x:=congrArg (fun f=>(f [] env x .Eq e k9 e.pos 0 e [] 0).2.1) h
theorem HE.mark (op:CmpOp):behindInMarks op e=false:=congrArg (fun f=>(f [] default .none op e k9 e.pos 0 e [] 0).2.2.1) h
theorem HE.swA {o:Expr} {n:Str} {p:Pos} {l:Nat} {env:Env}:swapsWith e (some (.Attribute o n p)) l env=pure false:=congrArg (fun f=>(f [] env .none .Eq o n p l e [] 0).2.2.2.1) h
theorem HE.swS {o i:Expr} {p:Pos} {l:Nat} {env:Env}:swapsWith e (some (.Subscript o i p)) l env=pure false:=congrArg (fun f=>(f [] env .none .Eq o k9 p l i [] 0).2.2.2.2.1) h
theorem HE.swT {ts:List Expr} {k:Nat} {p:Pos} {l:Nat} {env:Env}:swapsWith e (some (.Tuple ts k p)) l env=pure false:=congrArg (fun f=>(f [] env .none .Eq e k9 p l e ts k).2.2.2.2.2.1) h
theorem HE.stN {n:Str} {p:Pos} {env:Env}:swappedStores [.Name n p] e env=pure none:=congrArg (fun f=>(f [] env .none .Eq e n p 0 e [] 0).2.2.2.2.2.2.1) h
theorem HE.stA {o:Expr} {n:Str} {p:Pos} {env:Env}:swappedStores [.Attribute o n p] e env=pure none:=congrArg (fun f=>(f [] env .none .Eq o n p 0 e [] 0).2.2.2.2.2.2.2.1) h
theorem HE.stS {o i:Expr} {p:Pos} {env:Env}:swappedStores [.Subscript o i p] e env=pure none:=congrArg (fun f=>(f [] env .none .Eq o k9 p 0 i [] 0).2.2.2.2.2.2.2.2) h
end
theorem SE_cmp {l op r pos o a b} (ho:op=cmpOf o) (hm:HE r) (hl:SE C d sc vars l a) (hr:SE C d sc vars r b):SE C d sc vars (.Compare l [op] [r] pos) (.cmp o a b):=fun Γ ρ σ m s Q X W S hv I q=>by
 refine wpG_Compare1 (aO (hl Γ ρ σ m s _ X W S hv I q) (fun x s₁ h=>?_) fun _ _ h=>h) (hm.mark _)
 obtain ⟨ρ₁,σ₁,v₁,g₁,k₁,I₁,r₁,q₁⟩:=h
 refine aO (hr Γ ρ₁ σ₁ m s₁ _ X W S hv I₁ q₁) (fun y s₂ h=>?_) fun _ _ h=>h.after g₁ k₁
 obtain ⟨ρ₂,σ₂,v₂,g₂,k₂,I₂,r₂,q₂⟩:=h
 refine bQ (cmp_sound I₂ W.units ho (r₁.mono (I₁.imm k₂) fun _ _ e=>g₂.get e) r₂ q₂) (fun _ _ h=>?_) fun _ _ h=>h
 obtain ⟨c,t,rfl,rfl,h⟩:=h
 exact (PQ.after g₂ k₂ (.tk I₂ (.bool c) h)).after g₁ k₁
theorem ST_cmp {l op r pos o a b} (ho:op=cmpOf o) (hm:HE r) (hl:SE C d sc vars l a) (hr:SE C d sc vars r b):ST C d sc vars (.Compare l [op] [r] pos) (.cmp o a b):=fun Γ ρ σ m s k X W S hv I q=>by
 refine wpG_isTrue_Compare1 (aO (hl Γ ρ σ m s _ X W S hv I q) (fun x s₁ h=>?_) fun _ _ h=>h) (hm.mark _)
 obtain ⟨ρ₁,σ₁,v₁,g₁,k₁,I₁,r₁,q₁⟩:=h
 refine aO (hr Γ ρ₁ σ₁ m s₁ _ X W S hv I₁ q₁) (fun y s₂ h=>?_) fun _ _ h=>h.after g₁ k₁
 obtain ⟨ρ₂,σ₂,v₂,g₂,k₂,I₂,r₂,q₂⟩:=h
 refine bQ (cmp_sound I₂ W.units ho (r₁.mono (I₁.imm k₂) fun _ _ e=>g₂.get e) r₂ q₂) (fun _ _ h=>?_) fun _ _ h=>h
 obtain ⟨c,t,rfl,rfl,h⟩:=h
 exact wpAny_truthy_bool ((PB.after g₂ k₂ (.tk I₂ h)).after g₁ k₁)
theorem ST_not {x pos a} (h:ST C d sc vars x a):ST C d sc vars (.UnaryOp .Not x pos) (.not a):=fun Γ ρ σ m s k X W S hv I q=>
 wpG_isTrue_Not (aO (h Γ ρ σ m s _ X W S hv I q) (fun b s₁ ⟨a,b,c,d,e,f⟩=>⟨a,b,c,d,e,f⟩) fun _ _ h=>h)
theorem lJ {e:Expr} {me:M} (he:∀env whole,isTrue e env whole=(do let v←whole;standAt e.pos;holding [v] (truthy v))) (hq:∀W m σ whole k X,wpT W me m σ whole k X=whole fun v σ=>l7 v σ fun b=>k b σ) (h:SE C d sc vars e me):ST C d sc vars e me:=fun Γ ρ σ m s k X W S hv I q=>by
 rw [hq] at q
 refine wpG_isTrue_value (aO (h Γ ρ σ m s _ X W S hv I q) (fun x s₁ h=>?_) fun _ _ h=>h) (he _ _)
 obtain ⟨ρ₁,σ₁,v₁,g₁,k₁,I₁,r₁,q₁⟩:=h
 exact bQ (truth_sound I₁ r₁ q₁) (fun _ _ h=>h.after g₁ k₁) fun _ _ h=>h
noncomputable def SA (C:Cx) (d:Nat) (sc:Scope) (vars:List Str) (op:BoolOp) (es:List Expr) (me:M):Prop:=
 ∀(Γ:Fx) (ρ:dI) (σ:aN) (m:Lo) (s:Shared) (k:Bool→aN→Prop) (X:Ex→aN→Prop),Γ.Wf d→kG sc Γ.env→Γ.vars=vars→cO C Γ ρ σ m s→wpT (wpCall d) me m σ (fun K=>wpE (wpCall d) me m σ K X) k X→
  wpG C.M Γ.A (allTrue op es Γ.env) (PB C Γ ρ m s k) (PX C Γ ρ m s X) s
theorem SA_and_one {e a} (h:ST C d sc vars e a):SA C d sc vars .And [e] a:=fun Γ ρ σ m s k X W S hv I q=>
 lE (aO (h Γ ρ σ m s _ X W S hv I q) (fun b s₁ h=>by
  cases b
  ·exact h
  ·exact wpG_allTrue_And_nil h) fun _ _ h=>h)
theorem SA_or_one {e a} (h:ST C d sc vars e a):SA C d sc vars .Or [e] a:=fun Γ ρ σ m s k X W S hv I q=>
 lW (aO (h Γ ρ σ m s _ X W S hv I q) (fun b s₁ h=>by
  cases b
  ·exact wpG_allTrue_Or_nil h
  ·exact h) fun _ _ h=>h)
theorem SA_and {e r a b} (h:ST C d sc vars e a) (hr:SA C d sc vars .And r b):SA C d sc vars .And (e::r) (.and a b):=fun Γ ρ σ m s k X W S hv I q=>
 lE (aO (h Γ ρ σ m s _ X W S hv I q) (fun t s₁ h=>by
  obtain ⟨ρ₁,σ₁,g₁,k₁,I₁,q₁⟩:=h
  cases t
  ·exact ⟨ρ₁,σ₁,g₁,k₁,I₁,q₁⟩
  ·exact aO (hr Γ ρ₁ σ₁ m s₁ _ X W S hv I₁ q₁) (fun _ _ h=>h.after g₁ k₁) fun _ _ h=>h.after g₁ k₁) fun _ _ h=>h)
theorem SA_or {e r a b} (h:ST C d sc vars e a) (hr:SA C d sc vars .Or r b):SA C d sc vars .Or (e::r) (.or a b):=fun Γ ρ σ m s k X W S hv I q=>
 lW (aO (h Γ ρ σ m s _ X W S hv I q) (fun t s₁ h=>by
  obtain ⟨ρ₁,σ₁,g₁,k₁,I₁,q₁⟩:=h
  cases t
  ·exact aO (hr Γ ρ₁ σ₁ m s₁ _ X W S hv I₁ q₁) (fun _ _ h=>h.after g₁ k₁) fun _ _ h=>h.after g₁ k₁
  ·exact ⟨ρ₁,σ₁,g₁,k₁,I₁,q₁⟩) fun _ _ h=>h)
theorem ST_bool {op es pos a} (h:SA C d sc vars op es a):ST C d sc vars (.BoolOp op es pos) a:=fun Γ ρ σ m s k X W S hv I q=>wpG_isTrue_BoolOp (h Γ ρ σ m s k X W S hv I q)
theorem SE_ife {c a b pos mc ma mb} (hc:ST C d sc vars c mc) (ha:SE C d sc vars a ma) (hb:SE C d sc vars b mb):SE C d sc vars (.IfExp c a b pos) (.ife mc ma mb):=fun Γ ρ σ m s Q X W S hv I q=>by
 refine wpG_IfExp (aO (hc Γ ρ σ m s _ X W S hv I q) (fun t s₁ h=>?_) fun _ _ h=>h)
 obtain ⟨ρ₁,σ₁,g₁,k₁,I₁,q₁⟩:=h
 cases t
 ·exact aO (hb Γ ρ₁ σ₁ m s₁ _ X W S hv I₁ q₁) (fun _ _ h=>h.after g₁ k₁) fun _ _ h=>h.after g₁ k₁
 ·exact aO (ha Γ ρ₁ σ₁ m s₁ _ X W S hv I₁ q₁) (fun _ _ h=>h.after g₁ k₁) fun _ _ h=>h.after g₁ k₁
theorem look_at (n:At):look n.name atTab=some n:=
 have h:∀n:Fin 28,(decide (look (At.name n) atTab=@some At n))=true:=by decide+kernel
 of_decide_eq_true (h n)
theorem At.name_inj {a b:At} (h:a.name=b.name):a=b:=by
 have:=look_at a
 rw [h,look_at b] at this
 exact (Option.some.inj this).symm
theorem mY {α:Type} {f:α→Str} {x:Str} {a:α} {l:List α} (h:look x (l.map fun b=>(f b,b))=some a):x=f a:=by
 obtain ⟨b,_,e⟩:=dE.mp (look_mem h)
 cases e;rfl
theorem ERs.get {h:Heap} {ρ:dI} {n:At} {w:V} {es:List DictEntry} {kvs:List (At×V)} (r:ERs h ρ es kvs) (hg:getA n kvs=some w):∃u,getL n.name es=some (some u)∧VR h ρ u w:=by
 induction r with
 | nil=>cases hg
 | @cons hs t x k v es kvs rx l ih=>
  unfold getL
  rcases ite_ind (p:=k=n) (u:=some v) (v:=getA n kvs) (P:=(·=some w)) hg with ⟨e,hq⟩ | ⟨e,hq⟩
  ·subst e
   cases hq
   refine ⟨x,?_,rx⟩
   rw [List.find?_cons]
   have:(Value.str k.name t).isStr k.name=true:=by simp [Value.isStr]
   rw [this]
  ·refine hide fun Gx hGx=>?_
   obtain ⟨u,hu,ru⟩:=ih hq
   refine hGx ?_
   refine ⟨u,?_,ru⟩
   rw [List.find?_cons]
   have:(Value.str k.name t).isStr n.name=false:=by
    simp only [Value.isStr,beq_eq_false_iff_ne]
    exact fun q=>e (At.name_inj q)
   rw [this]
   unfold getL at hu
   cases hf:es.find? (·.key.isStr n.name) with
   | some e=>rw [hf] at hu;exact hu
   | none=>rw [hf] at hu;simp only at hu;split at hu <;> cases hu
theorem VR.handed {h:Heap} {ρ:dI} {x:Value} {v:V} (r:VR h ρ x v):handedIn x=true:=VR.casesOn (motive_1:=fun x _ _=>handedIn x=true) r rfl (fun _=>rfl) (fun _ _=>rfl) (fun _ _=>rfl) (fun _ _ _=>rfl) (fun _ _ _=>rfl) fun _=>rfl
theorem cO.inst (I:cO C Γ ρ σ m s) {i:Nat} {a dx:Addr} {c:Cls} {kvs:List (At×V)} (hi:ρ[i]? =some (a,dx)) (hs:σ[i]? =some (.inst c kvs)):
  ∃es n,InstAt s.heap a (instObj (C.clsA c) dx) (C.clsA c) (some (dictOf es n))∧ERs s.heap ρ es kvs∧s.heap.get? dx=some (dictOf es n):=by
 refine hide fun Gx hGx=>?_
 obtain ⟨es,n,h1,h2,r⟩:=I.obj i _ _ hi hs
 refine hGx ?_
 exact ⟨es,n,⟨h1,rfl,rfl,h2⟩,r,h2⟩
theorem attr_sound (O:C.Ok) {x:Value} {a:V} {n:At} {expr:Bool} {Q:V→Prop} {E:Value→Shared→Prop} (I:cO C Γ ρ σ m s) (r:VR s.heap ρ x a) (q:wpAttr a n σ Q):
  wpAny C.M Γ.A (getAttr x n.name expr) (fun v s'=>∃w,s'={s with toks:=s.toks+1}∧VR s.heap ρ v w∧Q w) E s:=by
 induction q with
 | @mk i c kvs w h hg q=>
 apply r.e_obj;intro a dx hi
 refine hide fun Gx hGx=>?_
 obtain ⟨es,k,J,re,_⟩:=I.inst hi h
 obtain ⟨u,hu,ru⟩:=re.get hg
 refine hGx ?_
 have ok:=O.cls c
 exact get_value (I.kin O) J ok.get (findObj_own ok.dict (ok.name n) rfl (by rw [lookIn_dict];exact hu)) ru.handed ⟨w,rfl,ru,q⟩
noncomputable def abW (_:Str) (_:Env) (w:Sem Value):Sem Value:=w
noncomputable def abC (as:List Expr) (kw:List Keyword) (p:Pos) (f:Expr):=attributeBase (.Call f as kw p)
noncomputable def abD (as:List Expr) (kw:List Keyword) (p:Pos) (f:Expr):=cond (plainCall as f) abW (abC as kw p f)
theorem base_call {f:Expr} {as:List Expr} {kw:List Keyword} {p:Pos}:abC as kw p f=abD as kw p f:=by
 cases f <;> first | rfl | skip
 cases as <;> rfl
noncomputable def abE (o:Expr):=cond (gS o) abW (attributeBase o)
theorem base_abE (o:Expr):attributeBase o=abE o:=by
 cases o <;> first | rfl | exact base_call
theorem base_abW {o:Expr} (h:gS o=true):attributeBase o=abW:=by
 rw [base_abE,abE,h];rfl
theorem base_whole {o:Expr} {attr:Str} {env:Env} {whole:Sem Value} (h:gS o=true):attributeBase o attr env whole=whole:=base_abW h▸rfl
theorem SE_attr (O:C.Ok) {o x pos a n} (hb:gS o=true) (hn:look x atTab=some n) (h:SE C d sc vars o a):SE C d sc vars (.Attribute o x pos) (.attr a n):=fun Γ ρ σ m s Q X W S hv I q=>by
 obtain rfl:x=n.name:=mY hn
 rw [arm_eval_Attribute,base_whole hb]
 refine aM (aO (h Γ ρ σ m s _ X W S hv I q) (fun x s₁ h=>?_) fun _ _ h=>h)
 obtain ⟨ρ₁,σ₁,v₁,g₁,k₁,I₁,r₁,q₁⟩:=h
 refine bV (aC (fP (aC (gN (bQ (attr_sound O I₁ r₁ q₁) (fun v s₂ h=>?_) fun _ _ h=>h)))))
 obtain ⟨w,rfl,rw',q⟩:=h
 exact aC (wpAny_letTemporaryGo (aI ((PQ.tk I₁ rw' q).after g₁ k₁)))
end
end Internal
end
section
namespace Internal
open PySem PySem.W PySem.Calls PyProof.Rows Builtin
section
variable {C:Cx} {d:Nat} {sc:Scope} {vars:List Str} {Γ:Fx} {ρ:dI} {σ:aN} {m:Lo} {s:Shared}
theorem cO.push (I:cO C Γ ρ σ m s) (o:Obj) (t:Nat):cO C Γ ρ σ m {s with heap:=s.heap.push o,toks:=t}:=I.more fun b x e=>Heap.get?_push_of_some _ e
theorem Kp.push {ρ:dI} {F X:List Addr} {h:Heap} (o:Obj):Kp ρ F X h (h.push o):=.of_keeps fun b x e=>Heap.get?_push_of_some _ e
theorem Imm.push {h:Heap} (o:Obj):Imm h (h.push o):=.of_keeps fun b x e=>Heap.get?_push_of_some _ e
theorem VR.push {h:Heap} {ρ:dI} {x:Value} {v:V} (r:VR h ρ x v) (o:Obj):VR (h.push o) ρ x v:=r.mono (.push o) fun _ _ e=>e
theorem gQ.push {h:Heap} {ρ:dI} {x:List Value} {v:List V} (r:gQ h ρ x v) (o:Obj):gQ (h.push o) ρ x v:=r.mono (.push o) fun _ _ e=>e
theorem sub_or {o i:Value}:∀e:Expr,subscripted e false o i=operate [i,o] (getItem o i)∨subscripted e false o i=operate [o,i] (getItem o i):=by
 intro e
 cases e <;> first | exact .inr rfl | (rename Option Expr=>c;cases c <;> first | exact .inl rfl | exact .inr rfl) | skip
theorem sub_item {M:Model} {A:Around} {E:Value→Shared→Prop} {s:Shared} {slice:Expr} {o i:Value} {Q:Value→Shared→Prop} (h:wpAny M A (getItem o i) Q E s):wpAny M A (subscripted slice false o i) Q E s:=by
 rcases sub_or (o:=o) (i:=i) slice with e | e <;> rw [e] <;> exact wpAny_operating h
theorem mA {prog:Program} {w:World} {A:Around} {E:Value→Shared→Prop} {s:Shared} {value slice:Expr} {o i:Value} {T id:String} {Q:Value→Shared→Prop} (hT:s.TypeIs o T)
  (hl:typeLookup (.type T) "__getitem__" =pure (some (.builtin id))) (h:wpAny (model prog w) A (getItem o i) Q E s):wpAny (model prog w) A (subscriptTail value slice o i) Q E s:=by
 unfold subscriptTail
 refine aC ?_
 rw [getitemInPython_of_ne hT.not_modules]
 refine aC (dF hT hl ?_)
 have fin:wpAny (model prog w) A (subscripted slice false o i) (fun r s₃=>wpAny (model prog w) A (letTemporaryGo value o r >>=fun _=>pure r) Q E s₃) E s:=
  sub_item (bQ h (fun r s₃ h₃=>aC (wpAny_letTemporaryGo (aI h₃))) fun _ _ x=>x)
 first
  | exact aI (aC fin)
  | exact aC (aI (aC fin))
  | exact aC fin
theorem nth_index {α:Type} {vs:List α} {k:Int} {w:α} (h:nth vs k=some w):∃j,seqIndex? k vs.length=some j∧vs[j]? =some w:=by
 unfold nth at h
 unfold seqIndex?
 by_cases h0:0≤k
 ·rw [if_pos h0] at h
  have:=(aX.mp h).1
  refine ⟨k.toNat,?_,h⟩
  have e:¬k < 0:=gP.mpr h0
  simp only [e,if_false]
  rw [if_pos (by rw [hV];exact ⟨decide_eq_true h0,decide_eq_true ((Int.toNat_lt h0).mp this)⟩)]
 ·rw [if_neg h0] at h
  split at h
  ·rename_i h1
   have:=(aX.mp h).1
   refine ⟨_,?_,h⟩
   have e:k < 0:=pK.mp h0
   simp only [e,if_true]
   rw [if_pos (by rw [hV];exact ⟨decide_eq_true h1,decide_eq_true ((Int.toNat_lt h1).mp this)⟩)]
  ·cases h
theorem nth_bound {α:Type} {vs:List α} {k:Int} {w:α} (h:nth vs k=some w):-(vs.length:Int)≤k∧k < vs.length:=by
 unfold nth at h
 split at h
 ·have:=(aX.mp h).1
  exact ⟨cW (Int.neg_nonpos_of_nonneg (aV _)) ‹_›,(Int.toNat_lt ‹_›).mp this⟩
 ·split at h
  ·omega
  ·cases h
theorem nth_at {α:Type} {vs:List α} {k:Int} {w:α} (h:nth vs k=some w):∃j,j < vs.length∧vs[j]? =some w∧((0≤k∧k.toNat=j)∨(k < 0∧0≤k+vs.length∧(k+vs.length).toNat=j)):=by
 unfold nth at h
 by_cases h0:0≤k
 ·rw [if_pos h0] at h
  exact ⟨_,(aX.mp h).1,h,.inl ⟨h0,rfl⟩⟩
 ·rw [if_neg h0] at h
  by_cases h1:0≤k+(vs.length:Int)
  ·rw [if_pos h1] at h
   exact ⟨_,(aX.mp h).1,h,.inr ⟨pK.mp h0,h1,rfl⟩⟩
  ·rw [if_neg h1] at h;exact nos h
theorem idx_sound {x y:Value} {a b:V} {Q:V→Prop} {value slice:Expr} {E:Value→Shared→Prop} (I:cO C Γ ρ σ m s) (ra:VR s.heap ρ x a) (rb:VR s.heap ρ y b) (q:wpIdx a b σ Q):
  wpAny C.M Γ.A (subscriptTail value slice x y) (fun v s'=>∃w t,s'={s with toks:=t}∧VR s.heap ρ v w∧Q w) E s:=by
 induction q with
 | @bytes vs k w hw q=>
  apply rb.e_int;intro u;apply ra.e_bytes;intro b t z e
  subst e
  obtain ⟨j,hj,hj2⟩:=nth_index hw
  have hb:=nth_bound hw
  rw [iP] at hj hb
  rw [gL,dB] at hj2
  obtain ⟨c,hc,rfl⟩:=fK.mp hj2
  refine mA (eG s b t) mL.lookup (getItem_gives (eG s _ t) (by decide) mL FB.entry_bytes_getitem (FB.args_bytes_getitem_2 _ _) (gives_bytes_getitem _ k t u c ?_ (by rw [hj];exact hc)) ⟨_,s.toks+1,rfl,.int _ _,q⟩)
  rw [lO] at z
  simp only [Bytes.fitsIndex,hV,decide_eq_true_eq];exact ⟨cW (Int.neg_le_neg (cW (cC.mpr z) (by decide))) hb.1,Int.lt_of_lt_of_le hb.2 (cW (cC.mpr z) (by decide))⟩
 | tup hw q=>
  apply rb.e_int;intro u;apply ra.e_tup;intro a xs n e z r
  obtain ⟨j,hj,hj2⟩:=nth_index hw
  have hb:=nth_bound hw
  rw [←r.size] at hj hb
  rw [lO] at z
  obtain ⟨y,hy,ry⟩:=r.get hj2
  rw [dB] at hy
  exact mA ⟨_,e,rfl⟩ kS.lookup (P.getItem_tuple e (cW (Int.neg_le_neg (cW (cC.mpr z) (by decide))) hb.1) (Int.lt_of_lt_of_le hb.2 (cW (cC.mpr z) (by decide))) hj hy ⟨_,s.toks,rfl,ry,q⟩)
 | @obj i vs k w h hw q=>
  apply rb.e_int;intro u;apply ra.e_obj;intro a dd hi
  refine hide fun Gx hGx=>?_
  obtain ⟨xs,n,e,z,r⟩:=I.list hi h
  obtain ⟨j,hj,hw,hc⟩:=nth_at hw
  obtain ⟨y,hy,ry⟩:=r.get hw
  refine hGx ?_
  rw [dB] at hy
  rw [←r.size] at hj hc
  rw [lO] at z
  have hl:s.heap.IsList a xs:=⟨_,e,rfl,_,rfl⟩
  rcases hc with ⟨h0,rfl⟩ | ⟨h0,h1,rfl⟩
  ·exact mA hl.typeIs slot_list_getitem.lookup (wpAny_getItem_list hl h0 (pL (Int.self_le_toNat k) (Int.lt_of_lt_of_le (bH.mpr hj) (cW (cC.mpr z) (by decide)))) hy ⟨w,s.toks,rfl,ry,q⟩)
  ·exact mA hl.typeIs slot_list_getitem.lookup (wpAny_getItem_list_neg hl (by omega) (by omega) (by omega) hy ⟨w,s.toks,rfl,ry,q⟩)
theorem SE_idx {o i pos a b} (ho:SE C d sc vars o a) (hi:SE C d sc vars i b):SE C d sc vars (.Subscript o i pos) (.idx a b):=fun Γ ρ σ m s Q X W S hv I q=>by
 refine oD (aO (ho Γ ρ σ m s _ X W S hv I q) (fun x s₁ h=>?_) fun _ _ h=>h)
 obtain ⟨ρ₁,σ₁,v₁,g₁,k₁,I₁,r₁,q₁⟩:=h
 refine aO (hi Γ ρ₁ σ₁ m s₁ _ X W S hv I₁ q₁) (fun y s₂ h=>?_) fun _ _ h=>h.after g₁ k₁
 obtain ⟨ρ₂,σ₂,v₂,g₂,k₂,I₂,r₂,q₂⟩:=h
 refine bQ (idx_sound I₂ (r₁.mono (I₁.imm k₂) fun _ _ e=>g₂.get e) r₂ q₂) (fun _ _ h=>?_) fun _ _ h=>h
 obtain ⟨w,t,rfl,r,q⟩:=h
 exact (PQ.after g₂ k₂ (.tk I₂ r q)).after g₁ k₁
theorem clamp_clip (n:Nat) (k:Int):lS n k=clipAt n k:=rfl
theorem bnd_part {h:Heap} {ρ:dI} {x:Value} {a:V} {n dflt l:Nat} (r:VR h ρ x a) (e:bndOf n dflt a=some l):∃o,IsPart x o∧o.elim dflt (clipAt n)=l:=by
 cases a <;> try cases e
 ·rw [r.inv_none];exact ⟨none,.none,rfl⟩
 ·obtain ⟨t,rfl⟩:=r.inv_int
  exact ⟨some _,.int _ t,(clamp_clip _ _).symm⟩
theorem slice_eq {α:Type} (vs:List α) (l h:Nat):slice vs l h=(vs.drop l).take (h - l):=by rw [slice,List.drop_take]
theorem slice_len {α:Type} (vs:List α) (l h:Nat):(slice vs l h).length≤vs.length:=by rw [slice,List.length_drop,nG];exact aA (Nat.sub_le _ _) (Nat.min_le_right _ _)
theorem adjust_to (b n:Nat) (hb:b≤n):Builtin.Slice.sliceAdjust none (some (b:Int)) 1 (n:Int)=(0,(b:Int)):=by
 unfold Builtin.Slice.sliceAdjust
 have h1:¬((1:Int) < 0):=by decide
 have h2:¬((b:Int) < 0):=gP.mpr (aV b)
 simp only [h1,h2,if_false]
 congr 1
 exact oO (cC.mpr hb)
theorem places_to (b:Nat):Builtin.Slice.slicePlaces 0 (b:Int) 1=b:=by
 unfold Builtin.Slice.slicePlaces
 have h1:(1:Int) > 0:=by decide
 simp only [h1,if_true,Int.ediv_one]
 split
 ·rw [Int.sub_zero,Int.sub_add_cancel,dJ]
 ·exact (Nat.eq_zero_of_not_pos fun q=>‹¬_› (bH.mpr q)).symm
section
variable {prog:Program} {w:World} {A:Around} {E:Value→Shared→Prop} {s:Shared}
theorem sliceApplied_to {sl:Addr} {b n:Nat} {u:Tok} {Q:Int×Int×Nat→Shared→Prop} (hs:s.heap.IsSliceOf sl .none (.int b u) .none) (hb:b≤n) (h:Q (0,1,b) s):
  wpAny (model prog w) A (Builtin.Slice.sliceApplied (.ref sl) (pure (n:Int))) Q E s:=by
 obtain ⟨os,hos,hcs,hds⟩:=id hs
 delta Builtin.Slice.sliceApplied Builtin.Slice.sliceFields
 refine aC (aC (gJ hos hds (x:=.none) rfl (aC (gJ hos hds (x:=.int b u) rfl (aC (gJ hos hds (x:=.none) rfl (aI ?_)))))))
 refine aC (slicePart_none ?_)
 rw [if_neg (by decide)]
 refine aC (slicePart_none (aC (slicePart_int (aC (aI ?_)))))
 show wpAny _ _ (match Builtin.Slice.sliceAdjust none (some (b:Int)) 1 (n:Int) with | (lo,hi)=>pure (lo,(1:Int),Builtin.Slice.slicePlaces lo hi 1)) _ _ s
 rw [adjust_to b n hb]
 show wpAny _ _ (pure ((0:Int),(1:Int),Builtin.Slice.slicePlaces 0 (b:Int) 1)) _ _ s
 rw [places_to]
 exact aI h
theorem pick_to (xs:Array Value) (b:Nat) (hb:b≤xs.size):((List.range b).filterMap fun (k:Nat)=>xs[((0:Int)+(k:Int)*1).toNat]?).toArray=(xs.toList.take b).toArray:=by
 have e:(fun (k:Nat)=>xs[((0:Int)+(k:Int)*1).toNat]?)=fun k=>xs[0+k]? :=by
  funext k
  have:((0:Int)+(k:Int)*1).toNat=0+k:=by rw [Int.zero_add,Int.mul_one,dJ,fL]
  rw [this]
 rw [e]
 have:=pick_run xs 0 b
 rw [List.filterMap_map] at this
 have e2:((fun x=>xs[x]?) ∘ fun x=>0+x)=fun k=>xs[0+k]? :=rfl
 rw [e2] at this
 rw [this,List.drop_zero]
theorem getItem_tuple_to {t sl:Addr} {items:Array Value} {b:Nat} {u:Tok} {Q:Value→Shared→Prop} (ht:IsTup s.heap t items) (hs:s.heap.IsSliceOf sl .none (.int b u) .none) (hb:b < items.size)
  (h:Q (.ref s.heap.objs.size) {s with heap:=s.heap.push {cls:=.type "tuple",data:=.seq (items.toList.take b).toArray}})
  (hsz:items.size≤sizeLine):wpAny (model prog w) A (getItem (.ref t) (.ref sl)) Q E s:=by
 have htake:sizeOk (.seq (items.toList.take b).toArray):=by
  show (items.toList.take b).toArray.size≤sizeLine
  rw [i7,nG,gY]
  exact aA (Nat.min_le_right _ _) hsz
 obtain ⟨os,hos,hcs,hds⟩:=id hs
 have hTs:s.TypeIs (.ref sl) "slice" :=⟨os,hos,hcs⟩
 unfold getItem
 try with_reducible refine gN ?_
 first | refine aC (aI ?_) | skip
 refine aC (wpAny_sequenceKey ht.typeIs (by decide) ?_)
 refine aC (wpAny_callSpecial?_slot (name:=Str.ofString "__getitem__") ht.typeIs kS
  (wpAny_call_entry kS ht.typeIs entry_tuple_getitem ?_ (args_tuple_getitem _ _)))
 show wpAny _ _ (Builtin.Tuple.tupleItemsOf (.ref t) >>=_) _ _ s
 refine aC (tupleItemsOf_ ht ?_)
 refine aC (wpAny_typeOf hTs ?_)
 rw [if_pos (by decide)]
 refine aC (sliceApplied_to hs (b6 hb) ?_)
 have hno:¬(((0:Int)==0 && (1:Int)==1 && b==items.size)=true):=by
  have:(b==items.size)=false:=by rw [beq_eq_false_iff_ne];exact cJ hb
  rw [this];simp
 show wpAny _ _ (if ((0:Int)==0 && (1:Int)==1 && b==items.size)=true then _ else _) _ _ s
 rw [if_neg hno,pick_to items b (b6 hb)]
 first
  | exact aC (m:=Builtin.Tuple.tupleExact _) (eF (aI ⟨_,rfl,aI h⟩) htake)
  | exact aC (m:=Builtin.Tuple.tupleExact _) (eF (aC (aI (aI ⟨_,rfl,aI h⟩))) htake)
  | exact aC (aC (m:=Builtin.Tuple.tupleExact _) (eF (aI (aI ⟨_,rfl,aI h⟩)) htake))
  | exact aC (aC (m:=Builtin.Tuple.tupleExact _) (eF (aI ⟨_,rfl,aI h⟩) htake))
end
theorem PQ.tuple {Q:V→aN→Prop} {xs:List Value} {vs:List V} {t:Nat} (I:cO C Γ ρ σ m s) (z:vs.length≤lim) (r:gQ s.heap ρ xs vs) (q:Q (.tup vs) σ):
  PQ C Γ ρ m s Q (.ref s.heap.objs.size) {s with heap:=s.heap.push {cls:=.type "tuple",data:=.seq xs.toArray},toks:=t}:=
 .push I (.tup (n:=0) (Heap.get?_push_size _ rfl) (by rw [i7,r.length];exact z) (r.push _)) q
theorem slc_sound {x y z:Value} {a l h:V} {Q:V→aN→Prop} {value slice:Expr} {E:Value→Shared→Prop} (I:cO C Γ ρ σ m s) (ra:VR s.heap ρ x a) (rl:VR s.heap ρ y l) (rh:VR s.heap ρ z h) (q:wpSlc a l h σ Q):
  wpAny C.M Γ.A (subscriptTail value slice x (.ref s.heap.objs.size)) (PQ C Γ ρ m s Q) E {s with heap:=s.heap.push {cls:=.type "slice",data:=.fields #[y,z,.none]}}:=by
 have I':=I.push {cls:=.type "slice",data:=.fields #[y,z,.none]} s.toks
 have k':Kp ρ Γ.F [] s.heap (s.heap.push {cls:=.type "slice",data:=.fields #[y,z,.none]}):=.push _
 have ll:lim≤sizeLine:=j1
 induction q with
 | bytes hi hj q=>
  apply ra.e_bytes;intro b t zb e
  subst e
  rw [iP] at hi hj
  refine hide fun Gx hGx=>?_
  obtain ⟨o1,p1,rfl⟩:=bnd_part rl hi
  obtain ⟨o2,p2,rfl⟩:=bnd_part rh hj
  refine hGx ?_
  refine mA (eG _ b t) mL.lookup (getItem_meets (eG _ _ _) (by decide) mL FB.entry_bytes_getitem (FB.args_bytes_getitem_2 _ _) (KBc.meets_slice2 b t _ p1 p2)
   ⟨Heap.IsSliceOf.new _ _ _ _,aA (KBc.size_picked_le b _ _) (aA zb ll),fun t' k=>.after (.refl _ _) k' (.tk I' (.bytes _ t' (aA (KBc.size_picked_le b _ _) zb)) ?_)⟩)
  rw [KBc.picked_eq]
  rw [List.map_take,List.map_drop,←slice_eq]
  exact q
 | @«from» vs i h1 h2 q=>
  apply ra.e_tup;intro b xs n e zb r
  have e':=Heap.get?_push_of_some {cls:=.type "slice",data:=.fields #[y,z,.none]} e
  have ht:IsTup (s.heap.push {cls:=.type "slice",data:=.fields #[y,z,.none]}) b xs:=⟨_,e',rfl,n,rfl⟩
  obtain ⟨t,rfl⟩:=rl.inv_int
  obtain rfl:=rh.inv_none
  exact mA ht.typeIs kS.lookup (getItem_tuple_from ht (Heap.IsSliceOf.new ..) h1 (by rw [r.size];exact h2) (.after (.refl _ _) k' (.tuple I' (by rw [List.length_drop];exact aA (Nat.sub_le _ _) (r.size▸zb)) ((r.push _).drop i) q)) (aA zb ll))
 | @to vs i h1 q=>
  apply ra.e_tup;intro b xs n e zb r
  have e':=Heap.get?_push_of_some {cls:=.type "slice",data:=.fields #[y,z,.none]} e
  have ht:IsTup (s.heap.push {cls:=.type "slice",data:=.fields #[y,z,.none]}) b xs:=⟨_,e',rfl,n,rfl⟩
  obtain ⟨t,rfl⟩:=rh.inv_int
  obtain rfl:=rl.inv_none
  exact mA ht.typeIs kS.lookup (getItem_tuple_to ht (Heap.IsSliceOf.new ..) (by rw [r.size];exact h1) (.after (.refl _ _) k' (.tuple I' (by rw [nG];exact aA (Nat.min_le_right _ _) (r.size▸zb)) ((r.push _).take i) q)) (aA zb ll))
 | obj hs hi hj q=>
  apply ra.e_obj;intro b dd hr
  refine hide fun Gx hGx=>?_
  obtain ⟨xs,n,e,zb,r⟩:=I.list hr hs
  refine hGx ?_
  have e':=Heap.get?_push_of_some {cls:=.type "slice",data:=.fields #[y,z,.none]} e
  have hl:(s.heap.push {cls:=.type "slice",data:=.fields #[y,z,.none]}).IsList b xs:=⟨_,e',rfl,n,rfl⟩
  refine hide fun Gx hGx=>?_
  obtain ⟨o1,p1,rfl⟩:=bnd_part rl hi
  obtain ⟨o2,p2,rfl⟩:=bnd_part rh hj
  refine hGx ?_
  refine mA hl.typeIs slot_list_getitem.lookup (wpAny_getItem_list_slice hl (Heap.IsSliceOf.new ..) p1 p2 .none (by simp) (.after (.refl _ _) k' (.list I' (aA (slice_len _ _ _) (r.size▸zb)) ?_ q)) (aA zb ll))
  rw [slicePick_plain,slice_eq,←r.size]
  exact ((r.push _).drop _).take _
noncomputable def SO (C:Cx) (d:Nat) (sc:Scope) (vars:List Str) (e:Option Expr) (me:M):Prop:=
 ∀(Γ:Fx) (ρ:dI) (σ:aN) (m:Lo) (s:Shared) (Q:V→aN→Prop) (X:Ex→aN→Prop),Γ.Wf d→kG sc Γ.env→Γ.vars=vars→cO C Γ ρ σ m s→wpO (wpCall d) me m σ Q X→
  wpG C.M Γ.A (evalPart e Γ.env) (PQ C Γ ρ m s Q) (PX C Γ ρ m s X) s
theorem SO_none:SO C d sc vars none .nil:=fun Γ ρ σ m s Q X W S hv I q=>aY (.here I .none q)
theorem SO_some {e a} (h:SE C d sc vars e a) (hn:a≠.nil):SO C d sc vars (some e) a:=fun Γ ρ σ m s Q X W S hv I q=>by
 refine h Γ ρ σ m s Q X W S hv I ?_
 cases a <;> first | exact q | exact q.elim | exact absurd rfl hn
theorem SE_slc {o lo hi p pos a ml mh} (ho:SE C d sc vars o a) (hl:SO C d sc vars lo ml) (hh:SO C d sc vars hi mh):SE C d sc vars (.Subscript o (.Slice lo hi none p) pos) (.slc a ml mh):=fun Γ ρ σ m s Q X W S hv I q=>by
 refine oD (aO (ho Γ ρ σ m s _ X W S hv I q) (fun x s₁ h=>?_) fun _ _ h=>h)
 obtain ⟨ρ₁,σ₁,v₁,g₁,k₁,I₁,r₁,q₁⟩:=h
 refine wpG_Slice (aO (hl Γ ρ₁ σ₁ m s₁ _ X W S hv I₁ q₁) (fun y s₂ h=>?_) fun _ _ h=>h.after g₁ k₁)
 obtain ⟨ρ₂,σ₂,v₂,g₂,k₂,I₂,r₂,q₂⟩:=h
 refine aO (hh Γ ρ₂ σ₂ m s₂ _ X W S hv I₂ q₂) (fun z s₃ h=>?_) fun _ _ h=>(h.after g₂ k₂).after g₁ k₁
 obtain ⟨ρ₃,σ₃,v₃,g₃,k₃,I₃,r₃,q₃⟩:=h
 rw [evalPart_none]
 refine aY ?_
 have i2:=I₁.imm k₂
 have i3:=I₂.imm k₃
 exact bQ (slc_sound I₃ ((r₁.mono i2 fun _ _ e=>g₂.get e).mono i3 fun _ _ e=>g₃.get e) (r₂.mono i3 fun _ _ e=>g₃.get e) r₃ q₃) (fun _ _ h=>((h.after g₃ k₃).after g₂ k₂).after g₁ k₁) fun _ _ h=>h
structure SL (C:Cx) (d:Nat) (sc:Scope) (vars:List Str) (es:List Expr) (me:M):Prop where
 pl:∀env pos,(backTo pos (starEach es env)).any (·.1)=false
 run:∀(Γ:Fx) (ρ:dI) (σ:aN) (m:Lo) (s:Shared) (pos:Pos) (Q:List V→aN→Prop) (X:Ex→aN→Prop),Γ.Wf d→kG sc Γ.env→Γ.vars=vars→cO C Γ ρ σ m s→wpL (wpCall d) me m σ Q X→
  wpG C.M Γ.A (spliced (backTo pos (starEach es Γ.env))) (PL C Γ ρ m s Q) (PX C Γ ρ m s X) s
theorem SL_nil:SL C d sc vars [] .nil:=⟨fun _ _=>rfl,fun Γ ρ σ m s pos Q X W S hv I q=>wpG_items_nil ⟨ρ,σ,[],.refl _ _,.refl _ _ _ _,I,.nil,q⟩⟩
theorem SL_cons {e r a b} (he:HE e) (h:SE C d sc vars e a) (hr:SL C d sc vars r b):SL C d sc vars (e::r) (.cons a b):=⟨fun env pos=>he.star r env▸hr.pl env pos,fun Γ ρ σ m s pos Q X W S hv I q=>by
 refine wpG_items_cons (aO (h Γ ρ σ m s _ X W S hv I q) (fun x s₁ h=>?_) fun _ _ h=>h) (he.star _ _)
 obtain ⟨ρ₁,σ₁,v₁,g₁,k₁,I₁,r₁,q₁⟩:=h
 refine aO (hr.run Γ ρ₁ σ₁ m s₁ pos _ X W S hv I₁ q₁) (fun y s₂ h=>?_) fun _ _ h=>h.after g₁ k₁
 obtain ⟨ρ₂,σ₂,v₂,g₂,k₂,I₂,r₂,q₂⟩:=h
 exact ⟨ρ₂,σ₂,v₁::v₂,g₁.trans g₂ k₁.size,k₁.trans g₁ k₂,I₂,.cons (r₁.mono (I₁.imm k₂) fun _ _ e=>g₂.get e) r₂,q₂⟩⟩
theorem SE_tup {es k pos a} (h:SL C d sc vars es a):SE C d sc vars (.Tuple es k pos) (.tup a):=fun Γ ρ σ m s Q X W S hv I q=>by
 refine wpG_Tuple (aO (h.run Γ ρ σ m s pos _ X W S hv I q) (fun xs s₁ h=>?_) fun _ _ h=>h)
 obtain ⟨ρ₁,σ₁,v₁,g₁,k₁,I₁,r₁,z,q₁⟩:=h
 exact ⟨by rw [r₁.length,nJ];rw [lO] at z;omega,(PQ.tuple I₁ z r₁ q₁).after g₁ k₁⟩
theorem SE_lst {es pos a} (h:SL C d sc vars es a):SE C d sc vars (.List es pos) (.lst a):=fun Γ ρ σ m s Q X W S hv I q=>by
 refine wpG_List (aO (h.run Γ ρ σ m s pos _ X W S hv I q) (fun xs s₁ h=>?_) fun _ _ h=>h)
 obtain ⟨ρ₁,σ₁,v₁,g₁,k₁,I₁,r₁,z,q₁⟩:=h
 exact ⟨by rw [r₁.length,nJ];rw [lO] at z;omega,(PQ.list I₁ z r₁ q₁).after g₁ k₁⟩
end
end Internal
end
section
namespace Internal
open PySem PySem.W PySem.Calls PyProof.Rows Builtin
section
variable {C:Cx} {d:Nat} {sc:Scope} {vars:List Str} {Γ:Fx} {ρ:dI} {σ:aN} {m:Lo} {s s0 s':Shared}
structure Turn (F l:List Addr) (h h':Heap):Prop where
 live:∀b∈l,∃o,h'.get? b=some o
 keep:∀b o,h.get? b=some o→b∉F→b∉l→h'.get? b=some o
 slot:∀b∈F,∀o,h.get? b=some o→∃sl,h'.get? b=some {o with slots:=sl}
theorem Turn.get {F l:List Addr} {h h':Heap} (x:Turn F l h h') (b:Addr) (o:Obj) (e:h.get? b=some o):∃o',h'.get? b=some o':=by
 by_cases q:b∈F
 ·obtain ⟨sl,e'⟩:=x.slot b q o e;exact ⟨_,e'⟩
 ·by_cases r:b∈l
  ·exact x.live b r
  ·exact ⟨o,x.keep b o e q r⟩
theorem Turn.size {F l:List Addr} {h h':Heap} (x:Turn F l h h'):top h≤top h':=mS x.get
theorem Turn.trans {F l l':List Addr} {h h' h'':Heap} (x:Turn F l h h') (y:Turn F l' h' h''):Turn F (l++l') h h'':=
 ⟨fun b hb=>(dS.mp hb).elim (fun q=>by obtain ⟨o,e⟩:=x.live b q;exact y.get b o e) (y.live b),fun b o e nf nl=>y.keep b o (x.keep b o e nf fun q=>nl (dQ _ q)) nf fun q=>nl (a8 _ q),
  fun b hb o e=>let ⟨_,e1⟩:=x.slot b hb o e;let ⟨sl,e2⟩:=y.slot b hb _ e1;⟨sl,e2⟩⟩
theorem cO.turn {l:List Addr} (I:cO C Γ ρ σ m s) (t:Turn Γ.F l s.heap s'.heap) (hl:∀b∈l,C.h₀.get? b=none∧∀o,s.heap.get? b=some o→Rec o) (hg:autoParam (s'.gens=s.gens) cO.more._auto_1) (ho:autoParam (s'.os=s.os) cO.more._auto_1):cO C Γ ρ σ m s':=by
 have lt0:∀b o,C.h₀.get? b=some o→∀a,top C.h₀≤a→b≠a:=fun b o e a ha q=>absurd (e9 e) (bK.mpr (q▸ha))
 have nl:∀b o,s.heap.get? b=some o→¬Rec o→b∉l:=fun b o e n q=>n ((hl b q).2 o e)
 have im:Imm s.heap s'.heap:=fun b o e c=>t.keep b o e (I.apart e (.inl c)).2.1 (nl b o e fun ⟨vs,q⟩=>by obtain ⟨_,xs,n,e'⟩:=c;rw [e'] at q;cases q)
 have oddn:∀{o:Obj},Odd o→¬Rec o:=fun x q=>x.no (.inr q)
 have kO:∀b,nB ρ b→∀o,s.heap.get? b=some o→s'.heap.get? b=some o:=fun b hb o e=>by
  obtain ⟨o',e',x⟩:=I.own_odd hb
  rw [e] at e';cases e'
  exact t.keep b o e (fun q=>I.frmOwn b q hb) (nl b o e (oddn x))
 refine ⟨fun b o e=>t.keep b o (I.base b o e) (fun q=>lt0 b o e b (I.frmNew b q) rfl) (fun q=>by rw [(hl b q).1] at e;cases e),I.len,fun i p ao hp ha=>?_,I.dis,fun p hp=>?_,FunFrames.keep I.frm t.slot,I.frmOwn,I.frmNew,fun b hb=>?_,?_,I.newL,I.ownL,I.cells,fun y hy=>?_,I.cellsND,hg.trans I.gens,ho.trans I.os⟩
 ·exact (I.obj i p ao hp ha).mono (kO _ ⟨p,a7 hp,.inl rfl⟩) (kO _ ⟨p,a7 hp,.inr rfl⟩) im fun _ _ e=>e
 ·have:=I.own0 p hp
  exact ⟨this.1,this.2.1,aJ this.2.2.1 t.size,aJ this.2.2.2 t.size⟩
 ·obtain ⟨o,es,n,e,dd⟩:=I.frmDict b hb
  obtain ⟨sl,e'⟩:=t.slot b hb o e
  exact ⟨_,es,n,e',dd⟩
 ·refine I.loc.keep (fun o e=>?_) (fun y hy o e=>?_) im fun _ _ e=>e
  ·by_cases q:Γ.env.locals∈Γ.F
   ·exact t.slot _ q o e
   ·refine ⟨o.slots,t.keep _ o e q (nl _ o e ?_)⟩
    obtain ⟨nm,⟨o',es,ep,e',dd,_⟩,_⟩:=I.loc.ns
    rw [e] at e';cases e'
    exact oddn (Odd.dict dd)
  ·obtain ⟨o',w,e',dd⟩:=I.cellObj y hy
   rw [e] at e';cases e'
   exact t.keep _ o e (I.cells y hy).2.2.2 (nl _ o e (oddn (Odd.cell dd)))
 ·obtain ⟨o,w,e,dd⟩:=I.cellObj y hy
  exact ⟨o,w,t.keep _ o e (I.cells y hy).2.2.2 (nl _ o e (oddn (Odd.cell dd))),dd⟩
theorem Kp.turn {F X l:List Addr} {h h₁ h₂:Heap} (k:Kp ρ F X h h₁) (t:Turn F l h₁ h₂) (hl:∀b∈l,h.get? b=none):Kp ρ F X h h₂:=by
 have nl:∀b o,h.get? b=some o→b∉l:=fun b o e q=>by rw [hl b q] at e;cases e
 refine ⟨k.live.trans t.get,fun b o e n nx nf=>t.keep b o (k.keep b o e n nx nf) nf (nl b o e),fun b o e n nx hf=>?_⟩
 obtain ⟨sl,e1⟩:=k.slot b o e n nx hf
 obtain ⟨sl',e2⟩:=t.slot b hf _ e1
 exact ⟨sl',e2⟩
inductive PXPh (C:Cx) (Γ:Fx) (ρ:dI) (h₀:Heap) (X:Ex→Lo→aN→Prop) (P:Option Value→Prop) (e:Value) (s':Shared):Prop
 | mk (ρ':dI) (σ':aN) (m':Lo) (x:Ex) (g:fO ρ ρ' h₀) (k:Kp ρ Γ.F Γ.X h₀ s'.heap) (J:cO C Γ ρ' σ' m' s') (r:ExcF C h₀ s'.heap e x P) (q:X x m' σ')
noncomputable abbrev PXP (C:Cx) (Γ:Fx) (ρ:dI) (s:Shared) (X:Ex→Lo→aN→Prop) (P:Option Value→Prop):Value→Shared→Prop:=PXPh C Γ ρ s.heap X P
noncomputable abbrev PXS (C:Cx) (Γ:Fx) (ρ:dI) (s:Shared) (X:Ex→Lo→aN→Prop):Value→Shared→Prop:=PXP C Γ ρ s X (Any Γ)
theorem PXP.hp {X:Ex→Lo→aN→Prop} {P:Option Value→Prop} {e:Value} {u:Shared} (h:PXP C Γ ρ s0 X P e s) (q:s0.heap=u.heap):PXP C Γ ρ u X P e s:=by
 obtain ⟨a,b,c,d,f,g,i,j,k⟩:=h
 rw [q] at f g j
 exact ⟨a,b,c,d,f,g,i,j,k⟩
theorem PXP.px {X:Ex→Lo→aN→Prop} {P P':Option Value→Prop} {e:Value} (h:PXP C Γ ρ s0 X P e s) (p:∀o,P o→P' o):PXP C Γ ρ s0 X P' e s:=by
 obtain ⟨ρ',σ',m',x,a,b,c,r,f⟩:=h
 exact ⟨ρ',σ',m',x,a,b,c,r.mono (fun _ o e=>⟨o,e⟩) p,f⟩
theorem PX.pxs {X:Ex→aN→Prop} {X':Ex→Lo→aN→Prop} {e:Value} (h:PX C Γ ρ m s0 X e s) (hx:∀x σ,X x σ→X' x m σ):PXS C Γ ρ s0 X' e s:=by
 obtain ⟨ρ',σ',x,a,b,c,r,f⟩:=h
 exact ⟨ρ',σ',m,x,a,b.monoX (fun _ q=>nomatch q),c,r,hx _ _ f⟩
theorem PXP.after {X:Ex→Lo→aN→Prop} {P:Option Value→Prop} {e:Value} {ρ₁:dI} {s₁:Shared} (g:fO ρ ρ₁ s0.heap) (k:Kp ρ Γ.F Γ.X s0.heap s₁.heap) (h:PXP C Γ ρ₁ s₁ X P e s):PXP C Γ ρ s0 X P e s:=by
 obtain ⟨ρ',σ',m',x,a,b,c,r,f⟩:=h
 exact ⟨ρ',σ',m',x,g.trans a k.size,k.trans g b,c,r.mono k.live fun _ h=>h,f⟩
theorem cO.size0 (I:cO C Γ ρ σ m s):top C.h₀≤top s.heap:=by
 have:=I.newL
 obtain ⟨nm,⟨o,es,ep,e,_⟩,_⟩:=I.loc.ns
 exact aA this (b6 (e9 e))
theorem oV {X:Ex→Lo→aN→Prop} {P:Option Value→Prop} {e:Value} {v:Option Addr} {M:Model} {A:Around} {E:Value→Shared→Prop} {Q:Unit→Shared→Prop} (z0:oM C.h₀ s0.heap)
  (h:PXP C Γ ρ s0 X P e s) (hp:¬P none) (k:∀s',PXP C Γ ρ s0 X (fun o=>o=some (v.elim .none fun f=>rawInt f)) e s'→Q () s'):wpAny M A (setFlight e v) Q E s:=by
 obtain ⟨ρ',σ',m',x,a,b,I,⟨ad,oe,vs,rfl,ha,he,hc,hd,⟨⟨a0,h0⟩,h2⟩,h1⟩,f⟩:=h
 rcases h1 with ⟨_,q⟩ | ⟨T,oT,ts,fl,h1,hT,hne,hTo,hTd,h3,_⟩
 ·exact absurd q hp
 unfold setFlight
 refine aC (gJ he hd h1 ?_)
 rw [if_pos (show (Value.ref T !=Value.none)=true from by simp)]
 refine wpAny_setField hTo hTd (fZ.mp h3).1 (k _ ?_)
 have hdT:=Obj.data_mapFields hTd (·.setIfInBounds 3 (v.elim Value.none fun f=>rawInt f))
 have t:Turn Γ.F [T] s.heap (s.heap.update T (Obj.mapFields (·.setIfInBounds 3 (v.elim Value.none fun f=>rawInt f)))):=by
  have ko:∀b,b≠T→(s.heap.update T (Obj.mapFields (·.setIfInBounds 3 (v.elim Value.none fun f=>rawInt f)))).get? b=s.heap.get? b:=fun b hb=>Heap.get?_update_other _ _ (Ne.symm hb)
  refine ⟨fun b hb=>⟨_,by rw [bJ] at hb;subst hb;exact Heap.get?_update_self _ hTo (f0 hdT)⟩,fun b o e _ nl=>(ko b fun q=>nl (q▸.head _)).trans e,fun b hb o e=>⟨o.slots,(ko b fun q=>?_).trans e⟩⟩
  obtain ⟨o',e',x⟩:=I.frm_odd hb
  rw [q,hTo] at e';cases e'
  exact x.2 _ hTd
 refine ⟨ρ',σ',m',x,a,b.turn t (by simpa using hT),I.turn t (fun b hb=>?_),⟨ad,oe,vs,rfl,ha,(Heap.get?_update_other _ _ hne).trans he,hc,hd,⟨⟨a0,h0⟩,h2⟩,.inr ⟨T,_,_,_,h1,hT,hne,Heap.get?_update_self _ hTo (f0 hdT),hdT,?_,rfl⟩⟩,f⟩
 ·rw [bJ] at hb;subst hb
  refine ⟨z0.none hT,fun o e=>?_⟩
  rw [hTo] at e;cases e;exact ⟨_,hTd⟩
 ·have:=(fZ.mp h3).1
  simp [this]
theorem entry_sound {X:Ex→Lo→aN→Prop} {P:Option Value→Prop} {e:Value} {L:Addr} {r:List Env} {head:Value} {hadNext:Bool} {E:Value→Shared→Prop} {Q:Unit→Shared→Prop} (z0:oM C.h₀ s0.heap)
  (hfr:Γ.A.frames=some Γ.fr) (htop:Γ.fr=Γ.env::r) (hf:Γ.env.frame=some L)
  (h:PXP C Γ ρ s0 X P e s) (k:∀s',PXP C Γ ρ s0 X (Held Γ) e s'→Q () s'):
  wpAny C.M Γ.A (do let a←frameOf Γ.env;let pl←entryPlaceOf L hadNext;let b←EntryCells.newEntry head a .none (rawInt L) .none pl;setField e 1 b) Q E s:=by
 obtain ⟨ρ',σ',m',x,a,b,I,⟨ad,oe,vs,rfl,ha,he,hc,hd,⟨⟨a0,h0⟩,h2⟩,h1⟩,f⟩:=h
 have hsz:1 < vs.size:=by
  rcases h1 with ⟨q,_⟩ | ⟨_,_,_,_,q,_⟩ <;> exact (fZ.mp q).1
 have hefr:ad∉Γ.F:=fun q=>by
  obtain ⟨o',e',x⟩:=I.frm_odd q
  rw [he] at e';cases e'
  exact x.2 _ hd
 refine aC (wpAny_frameOf_fun (htop▸hfr) (htop▸I.frm) hf fun h₁ hs₁=>?_)
 rw [←htop] at hs₁
 refine aC (wpAny_entryPlaceOf fun pl hpl=>?_)
 delta EntryCells.newEntry newFields
 refine aC (eF ?_ (hpl.sizeOk5 _ _ _ _ _))
 have t1:Turn Γ.F [] s.heap h₁:=⟨fun _ (q:_∈[])=>(nomatch q),fun b o e nf _=>(hs₁.2.1 b nf).trans e,fun b _ o e=>hs₁.2.2 b o e⟩
 have he₁:h₁.get? ad=some oe:=(hs₁.2.1 ad hefr).trans he
 generalize hob:({cls:=.type "traceback",dict:=none,data:=.fields ([head,.ref L,.none,rawInt L,.none]++(if pl.isEmpty then List.replicate 6 Value.none else pl)).toArray}:Obj)=ob
 have t2:Turn Γ.F [] h₁ (h₁.push ob):=⟨fun _ (q:_∈[])=>(nomatch q),fun b o e _ _=>Heap.get?_push_of_some _ e,fun b _ o e=>⟨o.slots,Heap.get?_push_of_some _ e⟩⟩
 have he₂:=Heap.get?_push_of_some (h:=h₁) ob he₁
 refine wpAny_setField he₂ hd hsz (k _ ?_)
 have hdn:=Obj.data_mapFields hd (·.setIfInBounds 1 (Value.ref h₁.objs.size))
 have hTe:h₁.objs.size≠ad:=lU (Heap.lt_size he₁)
 have ko:∀b,b≠ad→((h₁.push ob).update ad (Obj.mapFields (·.setIfInBounds 1 (Value.ref h₁.objs.size)))).get? b=(h₁.push ob).get? b:=fun b hb=>Heap.get?_update_other _ _ (Ne.symm hb)
 have t3:Turn Γ.F [ad] (h₁.push ob) ((h₁.push ob).update ad (Obj.mapFields (·.setIfInBounds 1 (Value.ref h₁.objs.size)))):=
  ⟨fun b hb=>⟨_,by rw [bJ] at hb;subst hb;exact Heap.get?_update_self _ he₂ (f0 hdn)⟩,fun b o e _ nl=>(ko b fun q=>nl (q▸.head _)).trans e,fun b hb o e=>⟨o.slots,(ko b fun q=>hefr (q▸hb)).trans e⟩⟩
 have t:=(t1.trans t2).trans t3
 refine ⟨ρ',σ',m',x,a,b.turn t (by simpa using ha),I.turn t (fun b hb=>?_),⟨ad,_,_,rfl,ha,Heap.get?_update_self _ he₂ (f0 hdn),(Obj.cls_mapFields _ _).trans hc,hdn,⟨⟨a0,by rw [Array.getElem?_setIfInBounds_ne (by decide)];exact h0⟩,fun q=>by rw [Array.getElem?_setIfInBounds_ne (by decide)];exact h2 q⟩,
  .inr ⟨h₁.objs.size,ob,_,rawInt L,by simp [hsz],?_,hTe,(ko _ hTe).trans (Heap.get?_push_size h₁ (by rw [←hob];rfl)),by rw [←hob],by simp,L,hf,rfl⟩⟩,f⟩
 ·have hb':b=ad:=by simpa using hb
  subst hb'
  refine ⟨z0.none ha,fun o e=>?_⟩
  rw [he] at e;cases e;exact ⟨_,hd⟩
 ·exact b.live.none (by rw [hs₁.1];exact Heap.get?_none_of_le (bD _))
theorem pB {X:Ex→Lo→aN→Prop} {e:Value} {r:List Env} {L:Addr} {E:Value→Shared→Prop} {Q:Unit→Shared→Prop} (z0:oM C.h₀ s0.heap)
  (hfr:Γ.A.frames=some Γ.fr) (htop:Γ.fr=Γ.env::r) (hf:Γ.env.frame=some L)
  (h:PXS C Γ ρ s0 X e s) (k:∀s',PXP C Γ ρ s0 X (Held Γ) e s'→Q () s'):wpAny C.M Γ.A (noteFrame e Γ.env) Q E s:=by
 have h':=h
 obtain ⟨ρ',σ',m',x,a,b,I,⟨ad,oe,vs,rfl,ha,he,hc,hd,⟨⟨a0,h0⟩,h2⟩,h1⟩,f⟩:=h
 unfold noteFrame
 simp only [hf]
 rcases h1 with ⟨h1,_⟩ | ⟨T,oT,ts,fl,h1,hT,hne,hTo,hTd,h3,hP⟩
 ·refine aC (gJ he hd h1 ?_)
  rw [if_neg (by decide)]
  exact entry_sound (P:=Any Γ) z0 hfr htop hf h' k
 ·refine aC (gJ he hd h1 ?_)
  rw [if_pos (show (Value.ref T !=Value.none)=true from by simp)]
  refine aC (gJ hTo hTd h3 ?_)
  rcases hP with q | q | ⟨L',hL',q⟩
  ·cases q
  ·cases q
   rw [if_neg (show ¬((Value.none==rawInt L)=true) from by simp [rawInt])]
   have hdT:=Obj.data_mapFields hTd (·.setIfInBounds 3 Value.none)
   have t:Turn Γ.F [T] s.heap (s.heap.update T (Obj.mapFields (·.setIfInBounds 3 Value.none))):=by
    have ko:∀b,b≠T→(s.heap.update T (Obj.mapFields (·.setIfInBounds 3 Value.none))).get? b=s.heap.get? b:=fun b hb=>Heap.get?_update_other _ _ (Ne.symm hb)
    refine ⟨fun b hb=>⟨_,by rw [bJ] at hb;subst hb;exact Heap.get?_update_self _ hTo (f0 hdT)⟩,fun b o e _ nl=>(ko b fun q=>nl (q▸.head _)).trans e,fun b hb o e=>⟨o.slots,(ko b fun q=>?_).trans e⟩⟩
    obtain ⟨o',e',x⟩:=I.frm_odd hb
    rw [q,hTo] at e';cases e'
    exact x.2 _ hTd
   refine aC (wpAny_setField hTo hTd (fZ.mp h3).1 ?_)
   refine entry_sound (P:=Flies) z0 hfr htop hf ⟨ρ',σ',m',x,a,b.turn t (by simpa using hT),I.turn t (fun b hb=>?_),⟨ad,oe,vs,rfl,ha,(Heap.get?_update_other _ _ hne).trans he,hc,hd,⟨⟨a0,h0⟩,h2⟩,.inr ⟨T,_,_,_,h1,hT,hne,Heap.get?_update_self _ hTo (f0 hdT),hdT,?_,rfl⟩⟩,f⟩ k
   ·rw [bJ] at hb;subst hb
    refine ⟨z0.none hT,fun o e=>?_⟩
    rw [hTo] at e;cases e;exact ⟨_,hTd⟩
   ·have:=(fZ.mp h3).1
    simp [this]
  ·rw [hf] at hL';cases hL'
   cases q
   rw [if_pos (show (rawInt L==rawInt L)=true from by simp)]
   exact aI (k s ⟨ρ',σ',m',x,a,b,I,⟨ad,oe,vs,rfl,ha,he,hc,hd,⟨⟨a0,h0⟩,h2⟩,.inr ⟨T,oT,ts,_,h1,hT,hne,hTo,hTd,h3,L,hf,rfl⟩⟩,f⟩)
theorem leave_sound {X:Ex→Lo→aN→Prop} {e:Value} {r:List Env} {L:Addr} {E:Value→Shared→Prop} {Q:Unit→Shared→Prop} (z0:oM C.h₀ s0.heap)
  (hfr:Γ.A.frames=some Γ.fr) (htop:Γ.fr=Γ.env::r) (hf:Γ.env.frame=some L)
  (h:PXS C Γ ρ s0 X e s) (k:∀s',PXP C Γ ρ s0 X Flies e s'→Q () s'):wpAny C.M Γ.A (leaving Γ.env e) Q E s:=by
 unfold leaving
 refine aC (pB z0 hfr htop hf h fun s' h=>?_)
 exact oV (v:=none) z0 h (fun ⟨_,_,q⟩=>nomatch q) k
theorem noted_sound {X:Ex→Lo→aN→Prop} {e:Value} {r:List Env} {L:Addr} {E:Value→Shared→Prop} (z0:oM C.h₀ s0.heap)
  (hfr:Γ.A.frames=some Γ.fr) (htop:Γ.fr=Γ.env::r) (hf:Γ.env.frame=some L)
  (h:PXS C Γ ρ s0 X e s) (k:∀s',PXP C Γ ρ s0 X (Held Γ) e s'→E e s'):notedBy C.M Γ.A Γ.env E e s:=pB z0 hfr htop hf h k
theorem back_sound {X:Ex→Lo→aN→Prop} {e:Value} {L:Addr} {E:Value→Shared→Prop} (z0:oM C.h₀ s0.heap) (hf:Γ.env.frame=some L)
  (h:PXP C Γ ρ s0 X (Held Γ) e s) (k:∀s',PXS C Γ ρ s0 X e s'→E e s'):cameBackBy C.M Γ.A Γ.env E e s:=by
 unfold cameBackBy
 have h':=h
 obtain ⟨ρ',σ',m',x,a,b,I,⟨ad,oe,vs,rfl,ha,he,hc,hd,⟨⟨a0,h0⟩,h2⟩,h1⟩,f⟩:=h
 rcases h1 with ⟨_,_,_,q⟩ | ⟨T,oT,ts,fl,h1,hT,hne,hTo,hTd,h3,_⟩
 ·cases q
 refine aC (gJ he hd h1 ?_)
 rw [if_neg (show ¬((Value.ref T==Value.none)=true) from by simp)]
 exact oV (v:=Γ.env.frame) z0 h' (fun ⟨_,_,q⟩=>nomatch q) fun s' h=>k s' (h.px fun o q=>.inr (.inr ⟨L,hf,by rw [hf] at q;exact q⟩))
end
end Internal
end
section
namespace Internal
open PySem PySem.W PySem.Calls PyProof.Rows Builtin
theorem zip_lookup_none {x:Str}:∀{ns:List Str} {vs:List Value},x∉ns→(ns.zip vs).lookup x=none
 | [],_,_=>rfl
 | _::_,[],_=>rfl
 | n::ns,v::vs,h=>by
  have h1:(x==n)=false:=by rw [beq_eq_false_iff_ne];exact fun q=>h (q▸.head _)
  rw [d7,cA,h1]
  exact zip_lookup_none fun q=>h (.tail _ q)
theorem lN {x:Str}:∀{ns:List Str} {vs:List Value},x∈ns→ns.length≤vs.length→((ns.zip vs).lookup x).isNone=false
 | n::ns,[],_,h=>by simp at h
 | n::ns,v::vs,hx,h=>by
  rw [d7,cA]
  cases q:x==n with
  | true=>rfl
  | false=>
   rcases bN.mp hx with r | r
   ·rw [r] at q;simp at q
   ·exact lN r (by simpa using h)
theorem zip_binds:∀{ns:List Str} {vs:List Value} (l:List (Str×Value)),ns.Nodup→ns.length=vs.length→(∀x∈ns,l.lookup x=(ns.zip vs).lookup x)→ns.filterMap (fun n=>(l.lookup n).map (n,·))=ns.zip vs
 | [],_,_,_,_,_=>rfl
 | n::ns,[],_,_,h,_=>by simp at h
 | n::ns,v::vs,l,nd,h,e=>by
  have h0:l.lookup n=some v:=by rw [e n (.head _),d7,cA];simp
  rw [gW,h0]
  simp only [Option.map_some,d7]
  congr 1
  refine zip_binds l nd.tail (by simpa using h) fun x hx=>?_
  rw [e x (.tail _ hx),d7,cA]
  have:(x==n)=false:=by rw [beq_eq_false_iff_ne];rintro rfl;exact (gH.mp nd).1 hx
  rw [this]
structure Plainly (fd:FuncData) (ns:List Str):Prop where
 po:fd.params.posonlyargs=[]
 names:fd.params.args.map (·.arg)=ns
 ko:fd.params.kwonlyargs=[]
 va:fd.params.vararg=none
 kw:fd.params.kwarg=none
 nd:ns.Nodup
theorem take_filter_nil {ns:List Str} {vs:List Value} (h:ns.length≤vs.length) (k:Nat):(ns.take k).filter (fun n=>((ns.zip vs).lookup n).isNone)=[]:=by
 rw [List.filter_eq_nil_iff]
 intro x hx
 rw [lN (List.mem_of_mem_take hx) h];simp
section
variable {M:Model} {A:Around} {E:Value→Shared→Prop} {s:Shared}
theorem dflt_loop {ns:List Str} {vs:List Value} {Q:List (Str×Value)→Shared→Prop}:∀(l:List (Str×Value)),(∀y∈l,((ns.zip vs).lookup y.1).isNone=false)→Q (ns.zip vs) s→
  wpAny M A (forIn (m:=Sem) l (ns.zip vs) fun x r=>if (r.lookup x.1).isNone=true then pure (ForInStep.yield (r++[(x.1,x.2)])) else pure (ForInStep.yield r)) Q E s
 | [],_,h=>aI h
 | y::l,hl,h=>by
  rw [List.forIn_cons]
  rw [if_neg (by rw [hl y (.head _)];simp)]
  exact aC (aI (dflt_loop l (fun z hz=>hl z (.tail _ hz)) h))
theorem wpAny_no {α:Type} {c:Bool} {a b:Sem α} {Q:α→Shared→Prop} (hc:c=false) (h:wpAny M A b Q E s):wpAny M A (if c=true then a else b) Q E s:=by subst hc;exact h
theorem sem_pure {α β:Type} (a:α) (f:α→Sem β):(pure a >>=f:Sem β)=f a:=rfl
theorem forIn_0 {α β:Type} (b:β) (f:α→β→Sem (ForInStep β)):forIn ([]:List α) b f=pure b:=rfl
noncomputable def bdD (o:Option (Array Value)) (n:Nat):List Value:=(o.getD #[]).toList.drop ((o.getD #[]).toList.length - n)
noncomputable def bdM (ns:List Str) (vs:List Value) (k:Nat):List Str:=(ns.take k).filter fun n=>((ns.zip vs).lookup n).isNone
noncomputable def bdF (l:List (Str×Value)) (b:List (Str×Value)):Sem (List (Str×Value)):=forIn l b fun x r=>if (r.lookup x.1).isNone=true then pure (ForInStep.yield (r++[(x.1,x.2)])) else pure (ForInStep.yield r)
noncomputable def bdR (ns:List Str) (sl:List (Str×Value)):Sem (List (Str×Value)):=pure ((ns++[]).filterMap fun n=>(sl.lookup n).map (n,·))
theorem bind_shape {fd:FuncData} {ns:List Str} {vs:List Value} (p:Plainly fd ns):∃e1 e2:Option (Array Value)→Sem (List (Str×Value)),bindArgs fd ⟨vs,[]⟩=seqItems? fd.defaults >>=fun o=>
  if (decide (vs.length > ns.length) && true)=true then e1 o else
  if (!(bdM ns vs (ns.length - (bdD o ns.length).length)).isEmpty)=true then e2 o else
  bdF ((ns.drop (ns.length - (bdD o ns.length).length)).zip (bdD o ns.length)) (ns.zip vs) >>=bdR ns:=by
 obtain ⟨h1,h2,h3,h4,h5,nd⟩:=p
 obtain ⟨_,qn,⟨po,ar,va,ko,kd,kw,df⟩,_,_,_,_,D,_,_,_,_,_,_,_⟩:=fd
 subst h2
 change po=[] at h1
 change ko=[] at h3
 change va=none at h4
 change kw=none at h5
 subst h1 h3 h4 h5
 exact ⟨_,_,rfl⟩
theorem bind_run {fd:FuncData} {ns:List Str} {vs ds:List Value} {o:Option (Array Value)} {Q:List (Str×Value)→Shared→Prop} (p:Plainly fd ns) (hl:vs.length≤ns.length) (hn:bdD o ns.length=ds) (hm:bdM ns vs (ns.length - ds.length)=[])
  (hd:∀Q:Option (Array Value)→Shared→Prop,Q o s→wpAny M A (seqItems? fd.defaults) Q E s) (h:wpAny M A (bdF ((ns.drop (ns.length - ds.length)).zip ds) (ns.zip vs)) (fun sl s'=>Q ((ns++[]).filterMap fun n=>(sl.lookup n).map (n,·)) s') E s):wpAny M A (bindArgs fd ⟨vs,[]⟩) Q E s:=by
 obtain ⟨e1,e2,e⟩:=bind_shape (vs:=vs) p
 rw [e]
 refine aC (hd _ (wpAny_no (by rw [decide_eq_false (bK.mpr hl)];rfl) ?_))
 rw [hn]
 exact wpAny_no (by rw [hm];rfl) (aC (bQ h (fun _ _ h=>aI h) fun _ _ h=>h))
theorem bind_exact {fd:FuncData} {ns:List Str} {vs:List Value} {ds:Option (Array Value)} {Q:List (Str×Value)→Shared→Prop} (p:Plainly fd ns) (hl:ns.length=vs.length)
  (hd:∀Q:Option (Array Value)→Shared→Prop,Q ds s→wpAny M A (seqItems? fd.defaults) Q E s) (h:Q (ns.zip vs) s):wpAny M A (bindArgs fd ⟨vs,[]⟩) Q E s:=by
 refine bind_run p (cP hl.symm) rfl (take_filter_nil (cP hl) _) hd (dflt_loop _ (fun y hy=>lN (List.mem_of_mem_drop (List.of_mem_zip hy).1) (cP hl)) ?_)
 rw [bF,zip_binds _ p.nd hl fun x _=>rfl]
 exact h
theorem dflt_one {ns:List Str} {vs:List Value} {x:Str} {d:Value} {Q:List (Str×Value)→Shared→Prop} (hx:((ns.zip vs).lookup x).isNone=true) (h:Q (ns.zip vs++[(x,d)]) s):
  wpAny M A (forIn (m:=Sem) ([x].zip [d]) (ns.zip vs) fun x r=>if (r.lookup x.1).isNone=true then pure (ForInStep.yield (r++[(x.1,x.2)])) else pure (ForInStep.yield r)) Q E s:=by
 show wpAny M A ((if ((ns.zip vs).lookup x).isNone=true then pure (ForInStep.yield (ns.zip vs++[(x,d)])) else pure (ForInStep.yield (ns.zip vs))) >>=_) Q E s
 rw [if_pos hx]
 exact aI h
theorem bind_dflt {fd:FuncData} {ns:List Str} {x:Str} {vs:List Value} {d:Value} {Q:List (Str×Value)→Shared→Prop} (p:Plainly fd (ns++[x])) (hl:ns.length=vs.length)
  (hd:∀Q:Option (Array Value)→Shared→Prop,Q (some #[d]) s→wpAny M A (seqItems? fd.defaults) Q E s) (h:Q ((ns++[x]).zip (vs++[d])) s):wpAny M A (bindArgs fd ⟨vs,[]⟩) Q E s:=by
 have e0:(ns++[x]).length=ns.length+1:=aF
 have e1:(ns++[x]).zip vs=ns.zip vs:=by
  have:=List.zip_append (r₁:=[x]) (r₂:=[]) hl
  rwa [bF,List.zip_nil_right,bF] at this
 have hx:((ns.zip vs).lookup x).isNone=true:=by
  have nd:=p.nd
  rw [List.nodup_append] at nd
  rw [zip_lookup_none fun q=>nd.2.2 x q x (.head _) rfl];rfl
 have e3:bdD (some #[d]) (ns++[x]).length=[d]:=by rw [e0];show List.drop (1 - (ns.length+1)) [d]=_;rw [Nat.sub_eq_zero_of_le (bX (cV _))];rfl
 have e2:(ns++[x]).length - [d].length=ns.length:=by rw [e0];rfl
 refine bind_run p (by rw [e0,hl];exact eJ _) e3 ?_ hd ?_
 ·rw [e2];unfold bdM;rw [e1,oN rfl]
  exact (congrArg _ (List.take_length (l:=ns)).symm).trans (take_filter_nil (cP hl) _)
 rw [e2,e1,List.drop_left' rfl]
 refine dflt_one hx ?_
 rw [show ns.zip vs++[(x,d)]=(ns++[x]).zip (vs++[d]) by rw [List.zip_append hl];rfl,bF,zip_binds _ p.nd (by rw [e0,aF,hl];rfl) fun x _=>rfl]
 exact h
end
theorem bindL_ne {kindOf:Str→Option NameKind} {x:Str}:∀{l:List (Str×Value)} {m:Str→Option Value},(∀y∈l,y.1≠x)→bindL kindOf l m x=m x
 | [],_,_=>rfl
 | (n,v)::r,m,h=>by
  unfold bindL
  rw [bindL_ne fun y hy=>h y (.tail _ hy)]
  have:x≠n:=fun q=>h (n,v) (.head _) q.symm
  split
  ·simp [this]
  ·rfl
theorem bindC_ne {kindOf:Str→Option NameKind} {x:Str}:∀{l:List (Str×Value)} {m:Str→Option Value},(∀y∈l,y.1≠x)→bindC kindOf l m x=m x
 | [],_,_=>rfl
 | (n,v)::r,m,h=>by
  unfold bindC
  rw [bindC_ne fun y hy=>h y (.tail _ hy)]
  have:x≠n:=fun q=>h (n,v) (.head _) q.symm
  split
  ·rfl
  ·simp [this]
theorem zip_fst_mem {ns:List Str} {vs:List Value} {y:Str×Value} (h:y∈ns.zip vs):y.1∈ns:=(List.of_mem_zip h).1
theorem bindL_zip {kindOf:Str→Option NameKind} {x:Str} {v:Value}:∀{ns:List Str} {vs:List Value} {m:Str→Option Value} {i:Nat},ns.Nodup→ns[i]? =some x→vs[i]? =some v→kindOf x=some .local→bindL kindOf (ns.zip vs) m x=some v
 | [],_,_,_,_,h,_,_=>nomatch h
 | n::ns,[],_,i,_,_,h,_=>by simp at h
 | n::ns,w::vs,m,0,nd,h1,h2,hk=>by
  cases h1;cases h2
  rw [d7]
  unfold bindL
  rw [bindL_ne fun y hy q=>(gH.mp nd).1 (by have:=zip_fst_mem hy;rwa [q] at this),if_pos hk]
  simp
 | n::ns,w::vs,m,i+1,nd,h1,h2,hk=>by
  rw [d7]
  unfold bindL
  exact bindL_zip nd.tail (by simpa using h1) (by simpa using h2) hk
theorem bindC_zip {kindOf:Str→Option NameKind} {x:Str} {v:Value}:∀{ns:List Str} {vs:List Value} {m:Str→Option Value} {i:Nat},ns.Nodup→ns[i]? =some x→vs[i]? =some v→kindOf x≠some .local→bindC kindOf (ns.zip vs) m x=some v
 | [],_,_,_,_,h,_,_=>nomatch h
 | n::ns,[],_,i,_,_,h,_=>by simp at h
 | n::ns,w::vs,m,0,nd,h1,h2,hk=>by
  cases h1;cases h2
  rw [d7]
  unfold bindC
  rw [bindC_ne fun y hy q=>(gH.mp nd).1 (by have:=zip_fst_mem hy;rwa [q] at this),if_neg hk]
  simp
 | n::ns,w::vs,m,i+1,nd,h1,h2,hk=>by
  rw [d7]
  unfold bindC
  exact bindC_zip nd.tail (by simpa using h1) (by simpa using h2) hk
theorem oJ {x:Str}:∀(l:List (Str×NameKind)) (n:Nat) (acc:List (Str×Addr)),(acc.lookup x).isSome=true→((cellsFrom n l acc).lookup x).isSome=true
 | [],_,_,h=>h
 | (name,kind)::r,n,acc,h=>by
  unfold cellsFrom
  split
  ·refine oJ r _ _ ?_
   rw [cA]
   split
   ·rfl
   ·exact h
  ·exact oJ r _ _ h
theorem m6 {x:Str}:∀(l:List (Str×NameKind)) (n:Nat) (acc:List (Str×Addr)),(x,NameKind.cell)∈l→((cellsFrom n l acc).lookup x).isSome=true
 | (name,kind)::r,n,acc,h=>by
  unfold cellsFrom
  rcases bN.mp h with q | q
  ·cases q
   rw [if_pos (by decide)]
   exact oJ r _ _ (by rw [cA];simp)
  ·split <;> exact m6 r _ _ q
theorem cellsFrom_mem {y:Str×Addr}:∀(l:List (Str×NameKind)) (n:Nat) (acc:List (Str×Addr)),y∈cellsFrom n l acc→y∈acc∨(y.1,NameKind.cell)∈l
 | [],_,_,h=>.inl h
 | (name,kind)::r,n,acc,h=>by
  unfold cellsFrom at h
  split at h
  ·rename_i q
   rcases cellsFrom_mem r _ _ h with z | z
   ·rcases bN.mp z with z | z
    ·subst z
     rw [gZ q]
     exact .inr (.head _)
    ·exact .inl z
   ·exact .inr (.tail _ z)
  ·exact (cellsFrom_mem r _ _ h).imp id fun z=>.tail _ z
end Internal
end
section
namespace Internal
open PySem PySem.W PySem.Calls PyProof.Rows Builtin
inductive FR (h:Heap) (ρ:dI):Flow→Fl→Prop
 | next:FR h ρ .next .next
 | brk:FR h ρ .brk .brk
 | ret {v:Value} {v':V}:VR h ρ v v'→FR h ρ (.ret v) (.ret v')
inductive PSh (C:Cx) (Γ:Fx) (ρ:dI) (h₀:Heap) (Q:Fl→Lo→aN→Prop) (fl:Flow) (s':Shared):Prop
 | mk (ρ':dI) (σ':aN) (m':Lo) (fl':Fl) (g:fO ρ ρ' h₀) (k:Kp ρ Γ.F Γ.X h₀ s'.heap) (J:cO C Γ ρ' σ' m' s') (r:FR s'.heap ρ' fl fl') (q:Q fl' m' σ')
noncomputable abbrev PS (C:Cx) (Γ:Fx) (ρ:dI) (s:Shared) (Q:Fl→Lo→aN→Prop):Flow→Shared→Prop:=PSh C Γ ρ s.heap Q
theorem PS.after {C:Cx} {Γ:Fx} {ρ ρ₁:dI} {s s₁ s':Shared} {Q:Fl→Lo→aN→Prop} {fl:Flow} (g:fO ρ ρ₁ s.heap) (k:Kp ρ Γ.F Γ.X s.heap s₁.heap) (h:PS C Γ ρ₁ s₁ Q fl s'):PS C Γ ρ s Q fl s':=by
 obtain ⟨ρ',σ',m',x,a,b,c,c1,c2⟩:=h
 exact ⟨ρ',σ',m',x,g.trans a k.size,k.trans g b,c,c1,c2⟩
noncomputable def SSs (C:Cx) (d:Nat) (sc:Scope) (vars:List Str) (ss:List Stmt) (mb:M):Prop:=
 ∀(Γ:Fx) (r:List Env) (ρ:dI) (σ:aN) (m:Lo) (s:Shared) (Q:Fl→Lo→aN→Prop) (X:Ex→Lo→aN→Prop),Γ.Wf d→Γ.fr=Γ.env::r→kG sc Γ.env→Γ.vars=vars→(∀x,Γ.env.kindOf x≠some .free)→Γ.vars.Nodup→cO C Γ ρ σ m s→wpSs (wpCall d) mb m σ Q X→
  wpG C.M Γ.A (execs ss Γ.env) (PS C Γ ρ s Q) (PXS C Γ ρ s X) s
noncomputable def RC (C:Cx) (Γ:Fx) (ρ:dI) (m:Lo) (s:Shared) (Q:V→aN→Prop) (X:Ex→aN→Prop):Result→Shared→Prop:=fun r s'=>match r with
 | .ok (.ret v)=>PQ C Γ ρ m s Q v s'
 | .ok _=>False
 | .error e=>PX C Γ ρ m s X e s'
structure RoomC (A:Around) (d:Nat):Prop where
 depth:A.depth+4*d+18 < recursionLimit
 units:A.units+20*d+90 < cLine
noncomputable def kE (C:Cx) (d:Nat):Prop:=∀(A:Around) (Γ:Fx) (ρ:dI) (σ:aN) (m:Lo) (s:Shared) (f:Fn) (vals:List Value) (args:List V) (Q:V→aN→Prop) (X:Ex→aN→Prop),
 A.frames=some Γ.fr→A.handled=none→RoomC A d→cO C Γ ρ σ m s→gQ s.heap ρ vals args→wpCall d f args σ Q X→codeG C.M A (.call (.ref (C.fnA f)) ⟨vals,[]⟩) (RC C Γ ρ m s Q X) s
structure FdOk (C:Cx) (f:Fn) (fd:FuncData) (body:List Stmt):Prop where
 stmts:fd.body=.stmts body
 co:fd.scope.isCoroutine=false
 gen:fd.scope.isGenerator=false
 kind:fd.scope.kind=.function
 clo:fd.closure=[]
 glob:fd.globals=mainGlobals
 blt:fd.builtins=builtinsNs
 code:C.h₀.CodeRec fd.code fd.qualname
 po:fd.params.posonlyargs=[]
 ko:fd.params.kwonlyargs=[]
 va:fd.params.vararg=none
 kw:fd.params.kwarg=none
 vars:f.info.vars=iE fd.params fd.scope
 par:f.info.params=fd.params.args.length
 ext:f.info.extra=(iE fd.params fd.scope).length - fd.params.args.length
 run:∀d,kE C d→SSs C d fd.scope f.info.vars body f.info.body
 free:∀x,fd.scope.names.lookup x≠some .free
 names:∀x∈fd.params.args.map (·.arg),fd.scope.names.lookup x=some .local∨fd.scope.names.lookup x=some .cell
 nd:f.info.vars.Nodup
 ndN:(fd.scope.names.map (·.1)).Nodup
 dflt:f.info.dflt=[]∧fd.defaults=.none∨∃i T o n t,f.info.dflt=[i]∧fd.defaults=.ref T∧C.h₀.get? T=some o∧o.data=.seq #[.int i t] n
structure FnOk (C:Cx) (f:Fn):Prop where
 ex:∃o fd body,C.h₀.get? (C.fnA f)=some o∧o.data=.func fd∧FdOk C f fd body
structure Cx.All (C:Cx):Prop extends C.Ok where
 lim:C.h₀.NoLimit
 fns:∀f,FnOk C f
theorem jC {x:Str} {k:NameKind}:∀{l:List (Str×NameKind)},l.lookup x=some k→(x,k)∈l
 | [],h=>nomatch h
 | y::l,h=>by
  rw [cA] at h
  split at h
  ·rename_i q
   cases h
   rw [show x=y.1 from by simpa using q];exact .head _
  ·exact .tail _ (jC h)
theorem kZ:∀(l:List (Str×NameKind)) (n:Nat) (acc:List (Str×Addr)),(l.map (·.1)).Nodup→(∀y∈acc,y.1∉l.map (·.1))→(∀y∈acc,acc.lookup y.1=some y.2)→∀y∈cellsFrom n l acc,(cellsFrom n l acc).lookup y.1=some y.2
 | [],_,_,_,_,h=>h
 | (name,kind)::r,n,acc,nd,dj,h=>by
  unfold cellsFrom
  have nd':=gH.mp nd
  split
  ·refine kZ r _ _ nd'.2 (fun y hy q=>?_) fun y hy=>?_
   ·rcases bN.mp hy with rfl | hy
    ·exact nd'.1 q
    ·exact dj y hy (.tail _ q)
   ·rw [cA]
    rcases bN.mp hy with rfl | hy
    ·simp
    ·have:(y.1==name)=false:=by rw [beq_eq_false_iff_ne];exact fun q=>dj y hy (q▸.head _)
     rw [this];exact h y hy
  ·exact kZ r _ _ nd'.2 (fun y hy q=>dj y hy (.tail _ q)) h
theorem pair_inj {p q:Str×Addr}:∀{l:List (Str×Addr)},l.Pairwise (fun x y=>x.2≠y.2)→p∈l→q∈l→p.2=q.2→p=q
 | y::l,h,hp,hq,e=>by
  have h':=List.pairwise_cons.mp h
  rcases bN.mp hp with hp | hp
  ·rcases bN.mp hq with hq | hq
   ·rw [hp,hq]
   ·exact absurd (hp▸e) (h'.1 q hq)
  ·rcases bN.mp hq with hq | hq
   ·exact absurd (hq▸e).symm (h'.1 p hp)
   ·exact pair_inj h'.2 hp hq e
theorem varsOf_take (a:Arguments) (sc:Scope):(iE a sc).take a.args.length=a.args.map (·.arg)∧∃r,iE a sc=a.args.map (·.arg)++r:=by
 unfold iE
 exact ⟨oN (by simp),_,rfl⟩
theorem kW {l r:Lo} {i:Nat} (h:i < l.length):cD (l++r) i=cD l i:=by
 induction l generalizing i with
 | nil=>cases h
 | cons a l ih=>
  induction i with
  | zero=>cases a <;> rfl
  | succ i=>simpa [cD] using ih (i:=i) (by simpa using h)
theorem nV {l r:Lo} {i:Nat} (h:l.length≤i):cD (l++r) i=cD r (i - l.length):=by
 induction l generalizing i with
 | nil=>rfl
 | cons a l ih=>
  induction i with
  | zero=>cases h
  | succ i=>simpa [cD,Nat.succ_sub_succ] using ih (i:=i) (by simpa using h)
theorem getV_none:∀(n i:Nat),cD (List.replicate n none) i=none
 | 0,_=>rfl
 | n+1,0=>rfl
 | n+1,i+1=>getV_none n i
theorem oH:∀(l:List V) (i:Nat),cD (l.map some) i=l[i]?
 | [],_=>rfl
 | _::_,0=>rfl
 | _::l,i+1=>by simpa [cD] using oH l i
section
variable {C:Cx} {d:Nat} {Γ:Fx} {ρ:dI} {σ:aN} {m:Lo} {s s₁:Shared}
noncomputable def Fx.sub (Γ:Fx) (A:Around) (fd:FuncData) (L:Addr) (f:Fn) (a:Addr):Fx:={A:=A.deeper (callEnvC fd L a),env:=callEnvC fd L a,fr:=callEnvC fd L a::Γ.fr,vars:=f.info.vars}
structure Pre (C:Cx) (Γ:Fx) (ρ:dI) (σ:aN) (s:Shared):Prop where
 base:∀b o,C.h₀.get? b=some o→s.heap.get? b=some o
 len:ρ.length=σ.length
 obj:∀(i:Nat) p ao,ρ[i]? =some p→σ[i]? =some ao→AOR C s.heap ρ p ao
 dis:∀(i j:Nat) p q,ρ[i]? =some p→ρ[j]? =some q→i≠j→p.1≠q.1∧p.1≠q.2∧p.2≠q.1∧p.2≠q.2
 own0:∀p∈ρ,top C.h₀≤p.1∧top C.h₀≤p.2∧p.1 < top s.heap∧p.2 < top s.heap
 frm:s.heap.FunFrames C.h₀ Γ.fr
 frmOwn:∀b∈Γ.F,¬nB ρ b
 frmNew:∀b∈Γ.F,top C.h₀≤b
 frmDict:∀b∈Γ.F,∃o es n,s.heap.get? b=some o∧o.data=.dict es n
 gens:s.gens=#[]
 os:s.os=C.os
theorem cO.pre {C:Cx} {Γ:Fx} {ρ:dI} {σ:aN} {m:Lo} {s:Shared} (I:cO C Γ ρ σ m s):Pre C Γ ρ σ s:=⟨I.base,I.len,I.obj,I.dis,I.own0,I.frm,I.frmOwn,I.frmNew,I.frmDict,I.gens,I.os⟩
theorem Pre.size0 {C:Cx} {Γ:Fx} {ρ:dI} {σ:aN} {s:Shared} (I:Pre C Γ ρ σ s):top C.h₀≤top s.heap:=mS fun b o e=>⟨o,I.base b o e⟩
theorem Pre.more {C:Cx} {Γ:Fx} {ρ:dI} {σ:aN} {s s':Shared} (I:Pre C Γ ρ σ s) (k:∀b o,s.heap.get? b=some o→s'.heap.get? b=some o)
  (hg:autoParam (s'.gens=s.gens) cO.more._auto_1) (ho:autoParam (s'.os=s.os) cO.more._auto_1):Pre C Γ ρ σ s':=by
 have z:top s.heap≤top s'.heap:=mS fun b o e=>⟨o,k b o e⟩
 refine ⟨fun b o e=>k b o (I.base b o e),I.len,fun i p ao hp ha=>(I.obj i p ao hp ha).mono (fun o e=>k _ o e) (fun o e=>k _ o e) (.of_keeps k) fun _ _ e=>e,I.dis,fun p hp=>?_,FunFrames.keep I.frm fun b _ o e=>⟨o.slots,k b o e⟩,I.frmOwn,I.frmNew,fun b hb=>?_,hg.trans I.gens,ho.trans I.os⟩
 ·have:=I.own0 p hp
  exact ⟨this.1,this.2.1,aJ this.2.2.1 z,aJ this.2.2.2 z⟩
 ·obtain ⟨o,es,n,e,d⟩:=I.frmDict b hb
  exact ⟨_,es,n,k _ _ e,d⟩
theorem Pre.enter {fd:FuncData} {body:List Stmt} {f:Fn} {a:Addr} {A:Around} {vals:List Value} {args:List (Option V)} (O:C.All) (D:FdOk C f fd body) (I:Pre C Γ ρ σ s) (hl:vals.length=fd.params.args.length) (hla:args.length=vals.length) (r:∀i v,cD args i=some v→∃u,vals[i]? =some u∧VR s.heap ρ u v)
  (x:InCallC s (callEnvC fd s.heap.objs.size a).locals (bindL (callEnvC fd s.heap.objs.size a).kindOf ((fd.params.args.map (·.arg)).zip vals) fun _=>none) (callEnvC fd s.heap.objs.size a).cells
   (bindC (callEnvC fd s.heap.objs.size a).kindOf ((fd.params.args.map (·.arg)).zip vals) fun _=>none) s₁):
  cO C (Γ.sub A fd s.heap.objs.size f a) ρ σ (args++List.replicate f.info.extra none) s₁:=by
 have hv:=D.vars
 have hp:=D.par
 have hx:=D.ext
 obtain ⟨hns,r',hr'⟩:=varsOf_take fd.params fd.scope
 obtain ⟨h',tk,rfl⟩:=x.toInCall.same
 have kp:=x.toInCall.keep
 have I':Pre C Γ ρ σ {s with heap:=h',toks:=tk}:=I.more kp
 have hL:(callEnvC fd s.heap.objs.size a).locals=s.heap.objs.size:=rfl
 have hF:(callEnvC fd s.heap.objs.size a).frame=some s.heap.objs.size:=rfl
 have lt0:∀b,nB ρ b→b < s.heap.objs.size:=fun b ⟨p,hp,hb⟩=>by
  have:=I.own0 p hp
  rcases hb with rfl | rfl
  ·exact aJ this.2.2.1 (eB _)
  ·exact aJ this.2.2.2 (eB _)
 have frOld:∀b∈Γ.F,b < s.heap.objs.size:=fun b hb=>by
  obtain ⟨o,es,n,e,_⟩:=I.frmDict b hb
  exact Heap.lt_size e
 refine hide fun Gx hGx=>?_
 obtain ⟨oL,es,ep,eL,dL,rL⟩:=x.toInCall.ns
 refine hGx ?_
 have args_len:args.length=f.info.params:=by rw [hla,hl,hp]
 have nsNd:(fd.params.args.map (·.arg)).Nodup:=by
  have:=D.nd
  rw [hv,hr',List.nodup_append] at this
  exact this.1
 have varsLen:f.info.vars.length=args.length+f.info.extra:=by
  rw [hx,args_len,hp,hv,hr',aF,aK,dO]
 have argOf:∀(i:Nat) y v,f.info.vars[i]? =some y→cD (args++List.replicate f.info.extra none) i=some v→(fd.params.args.map (·.arg))[i]? =some y∧∃u,vals[i]? =some u∧VR s.heap ρ u v:=fun i y v hy hg=>by
  by_cases hi:i < args.length
  ·rw [kW hi] at hg
   refine ⟨?_,r i v hg⟩
   rw [hv,hr',bT (by rw [aK,←hp,←args_len];exact hi)] at hy
   exact hy
  ·rw [nV (bU hi),getV_none] at hg
   cases hg
 have im:Imm s.heap h':=.of_keeps kp
 refine ⟨I'.base,I.len,I'.obj,I.dis,I'.own0,⟨by show fd.scope.kind≠.module;rw [D.kind];decide,⟨s.heap.objs.size,oL,hF,?_,eL,fun vs q=>by rw [dL] at q;cases q⟩,I'.frm⟩,fun b hb=>?_,fun b hb=>?_,fun b hb=>?_,⟨?_,⟨_,x.toInCall.ns,fun i y v hy hg hk=>?_⟩,fun i y hy hk=>?_⟩,aA I.size0 (eB _),fun q=>?_,fun y hy=>⟨?_,?_,?_,?_⟩,fun y hy=>?_,fun y z b hy hz=>?_,I.gens,I.os⟩
 ·cases q:C.h₀.get? s.heap.objs.size with
  | none=>rfl
  | some o=>exact absurd (Heap.lt_size (I.base _ _ q)) (fQ _)
 ·rcases bN.mp hb with rfl | hb
  ·exact fun q=>absurd (lt0 _ q) (fQ _)
  ·exact I.frmOwn b hb
 ·rcases bN.mp hb with rfl | hb
  ·exact aA I.size0 (eB _)
  ·exact I.frmNew b hb
 ·rcases bN.mp hb with rfl | hb
  ·exact ⟨oL,es,ep,eL,dL⟩
  ·exact I'.frmDict b hb
 ·show (args++List.replicate f.info.extra none).length=f.info.vars.length
  rw [varsLen];simp
 ·refine hide fun Gx hGx=>?_
  obtain ⟨h1,u,hu,ru⟩:=argOf i y v hy hg
  refine hGx ?_
  exact ⟨u,bindL_zip nsNd h1 hu hk,ru.mono im fun _ _ e=>e⟩
 ·have hk':fd.scope.names.lookup y=some .cell:=by
   rcases hk with q | q
   ·exact q
   ·exact absurd q (D.free y)
  obtain ⟨c,hc⟩:=kH.mp (m6 (x:=y) fd.scope.names (s.heap.objs.size+1) [] (jC hk'))
  obtain ⟨o,ho,hd⟩:=x.cell y c hc
  refine ⟨c,o,_,hc,ho,hd,fun v hg=>?_⟩
  obtain ⟨h1,u,hu,ru⟩:=argOf i y v hy hg
  refine ⟨u,bindC_zip nsNd h1 hu ?_,ru.mono im fun _ _ e=>e⟩
  show fd.scope.names.lookup y≠some .local
  rw [hk'];decide
 ·exact absurd (lt0 _ q) (fQ _)
 ·have:=x.above _ _ hy
  exact aA (aA I.size0 (eB _)) (b6 this)
 ·intro q
  have:=x.above _ _ hy
  exact absurd (lt0 _ q) (bK.mpr (b6 this))
 ·have:=x.above _ _ hy
  exact lU this
 ·intro q
  have h1:=x.above _ _ hy
  rcases bN.mp q with q | q
  ·exact absurd q (lU h1)
  ·exact absurd (frOld _ q) (bK.mpr (b6 h1))
 ·obtain ⟨o,ho,hd⟩:=x.cell _ _ (kZ _ _ _ D.ndN (fun _ (q:_∈[])=>nomatch q) (fun _ (q:_∈[])=>nomatch q) y hy)
  exact ⟨o,_,ho,hd⟩
 ·have:=pair_inj (p:=(y,b)) (q:=(z,b)) x.apart (eV hy) (eV hz) rfl
  exact congrArg Prod.fst this
theorem cO.enter {fd:FuncData} {body:List Stmt} {f:Fn} {a:Addr} {A:Around} {vals:List Value} {args:List V} (O:C.All) (D:FdOk C f fd body) (I:Pre C Γ ρ σ s) (hl:vals.length=fd.params.args.length) (r:gQ s.heap ρ vals args)
  (x:InCallC s (callEnvC fd s.heap.objs.size a).locals (bindL (callEnvC fd s.heap.objs.size a).kindOf ((fd.params.args.map (·.arg)).zip vals) fun _=>none) (callEnvC fd s.heap.objs.size a).cells
   (bindC (callEnvC fd s.heap.objs.size a).kindOf ((fd.params.args.map (·.arg)).zip vals) fun _=>none) s₁):
  cO C (Γ.sub A fd s.heap.objs.size f a) ρ σ (args.map some++List.replicate f.info.extra none) s₁:=
 Pre.enter O D I hl (by rw [aK,r.length]) (fun i v h=>r.get (by rwa [oH] at h)) x
end
end Internal
end
section
namespace Internal
open PySem PySem.W PySem.Calls PyProof.Rows Builtin
section
variable {C:Cx} {d:Nat} {Γ Γ':Fx} {ρ ρ':dI} {σ σ':aN} {m m':Lo} {s s' s₁:Shared}
theorem cO.loc_old (I:cO C Γ ρ σ m s):Γ.env.locals < s.heap.objs.size:=by
 obtain ⟨nm,⟨o,es,ep,e,_⟩,_⟩:=I.loc.ns
 exact Heap.lt_size e
theorem cO.back (I:cO C Γ ρ σ m s) (J:cO C Γ' ρ' σ' m' s') (g:fO ρ ρ' s.heap) (k:Kp ρ Γ.F [] s.heap s'.heap):cO C Γ ρ' σ' m s':=by
 have nO:∀b o,s.heap.get? b=some o→¬nB ρ b→¬nB ρ' b:=fun b o e n q=>n (q.grow g (e9 e))
 have keep:∀b o,s.heap.get? b=some o→¬nB ρ b→b∉Γ.F→s'.heap.get? b=some o:=fun b o e n nf=>k.keep b o e n (fun q=>nomatch q) nf
 have slot:∀b∈Γ.F,∀o,s.heap.get? b=some o→∃sl,s'.heap.get? b=some {o with slots:=sl}:=fun b hb o e=>k.slot b o e (I.frmOwn b hb) (fun q=>nomatch q) hb
 refine ⟨J.base,J.len,J.obj,J.dis,J.own0,FunFrames.keep I.frm slot,fun b hb=>?_,I.frmNew,fun b hb=>?_,I.loc.keep (fun o e=>?_) (fun y hy o e=>?_) (I.imm k) (fun _ _ e=>g.get e),I.newL,?_,fun y hy=>?_,fun y hy=>?_,I.cellsND,J.gens,J.os⟩
 ·obtain ⟨o,_,_,e,_⟩:=I.frmDict b hb
  exact nO b o e (I.frmOwn b hb)
 ·obtain ⟨o,es,n,e,dd⟩:=I.frmDict b hb
  obtain ⟨sl,e'⟩:=slot b hb o e
  exact ⟨_,es,n,e',dd⟩
 ·by_cases q:Γ.env.locals∈Γ.F
  ·exact slot _ q o e
  ·exact ⟨o.slots,keep _ o e I.ownL q⟩
 ·have:=I.cells y hy
  exact keep _ o e this.2.1 this.2.2.2
 ·obtain ⟨nm,⟨o,es,ep,e,_⟩,_⟩:=I.loc.ns
  exact nO _ o e I.ownL
 ·refine hide fun Gx hGx=>?_
  obtain ⟨a,b,c,dd⟩:=I.cells y hy
  obtain ⟨o,w,e,_⟩:=I.cellObj y hy
  refine hGx ?_
  exact ⟨a,nO _ o e b,c,dd⟩
 ·obtain ⟨o,w,e,dd⟩:=I.cellObj y hy
  have:=I.cells y hy
  exact ⟨o,w,keep _ o e this.2.1 this.2.2.2,dd⟩
theorem scOk_of {sc:Scope} {env:Env} (h:env.scope=sc):kG sc env:=by
 subst h
 exact ⟨fun _=>isGlob_lk,fun _=>isVar_lk,fun _=>id⟩
theorem gQ.snoc_int {h:Heap} {ρ:dI} {xs:List Value} {vs:List V} (r:gQ h ρ xs vs) (i:Int) (t:Tok):gQ h ρ (xs++[.int i t]) (vs++[.int i]):=r.append (.cons (.int i t) .nil)
theorem call_zero:kE C 0:=fun A Γ ρ σ m s f vals args Q X _ _ _ _ _ q=>q.elim
structure pN (C:Cx) (d:Nat) (Γ':Fx) (s s':Shared) (ρ:dI) (σ:aN) (m:Lo):Prop where
 keep:∀b o,s.heap.get? b=some o→s'.heap.get? b=some o
 new:∀b o,s.heap.get? b=some o→b∉Γ'.X
 wf:Γ'.Wf d
 inv:cO C Γ' ρ σ m s'
theorem enter_sound {f:Fn} {fd:FuncData} {body:List Stmt} {A:Around} {vals:List Value} {args:List (Option V)} {R:Result→Shared→Prop} (O:C.All) (D:FdOk C f fd body) (I:Pre C Γ ρ σ s) (hfr:A.frames=some Γ.fr) (hh:A.handled=none) (hroom:RoomC A (d+1)) (hl:vals.length=fd.params.args.length) (hla:args.length=vals.length) (r:∀i v,cD args i=some v→∃u,vals[i]? =some u∧VR s.heap ρ u v)
  (run:∀s',pN C d (Γ.sub A fd s.heap.objs.size f (C.fnA f)) s s' ρ σ (args++List.replicate f.info.extra none)→s'.heap.Ns (callEnvC fd s.heap.objs.size (C.fnA f)).locals (bindL (callEnvC fd s.heap.objs.size (C.fnA f)).kindOf ((fd.params.args.map (·.arg)).zip vals) fun _=>none)→
   wpG C.M (A.deeper (callEnvC fd s.heap.objs.size (C.fnA f))) (execs body (callEnvC fd s.heap.objs.size (C.fnA f))) (fun fl s''=>R (.ok (.ret (retV fl))) s'') (fun e s''=>wpAny C.M (A.deeper (callEnvC fd s.heap.objs.size (C.fnA f))) (leaving (callEnvC fd s.heap.objs.size (C.fnA f)) e) (fun _ s3=>R (.error e) s3) (fun e' s3=>R (.error e') s3) s'') s'):
  wpAny C.M A.in1 (newFunctionEnv fd.scope fd.globals fd.closure ((fd.params.args.map (·.arg)).zip vals) (fd.qualname++ ".<locals>.") (some (C.fnA f)) fd.code none fd.builtins)
   (fun env s₂=>s₂.heap.NoLimit∧codeG C.M A (.func body env) R s₂) (fun e s'=>R (.error e) s') s:=by
 rw [D.clo]
 refine wpAny_newFunctionEnv_cells D.kind (fun y hy=>?_) fun env he s' x=>?_
 ·rcases D.names _ (zip_fst_mem hy) with q | q
  ·exact .inl q
  ·exact .inr ⟨q,m6 _ _ _ (jC q)⟩
 subst he
 have x:InCallC s (callEnvC fd s.heap.objs.size (C.fnA f)).locals (bindL (callEnvC fd s.heap.objs.size (C.fnA f)).kindOf ((fd.params.args.map (·.arg)).zip vals) fun _=>none) (callEnvC fd s.heap.objs.size (C.fnA f)).cells (bindC (callEnvC fd s.heap.objs.size (C.fnA f)).kindOf ((fd.params.args.map (·.arg)).zip vals) fun _=>none) s':=by simpa [callEnvC] using x
 refine ⟨(O.lim.keeps I.base).keeps x.toInCall.keep,codeG_func (run s' ⟨x.toInCall.keep,fun b o e q=>?_,⟨by show A.frames.map _=_;rw [hfr];rfl,⟨_,_,s.heap.objs.size,rfl,rfl,rfl⟩,D.kind,D.glob,D.blt,hh,⟨by show A.depth+1+4*d+20 < _;rw [cZ _ 1];exact Nat.lt_of_succ_lt hroom.depth,by show A.units+3+20*d+100 < _;rw [cZ _ 3];exact aS (aU _ 7) hroom.units⟩⟩,Pre.enter O D I hl hla r x⟩ x.toInCall.ns)⟩
 rcases bN.mp q with q | q
 ·exact absurd (Heap.lt_size e) (by rw [q];exact fQ _)
 ·obtain ⟨y,hy,q⟩:=dE.mp q
  exact absurd (Heap.lt_size e) (bK.mpr (b6 (q▸x.above _ _ hy)))
theorem pN.kp {f:Fn} {fd:FuncData} {A:Around} {s'':Shared} (E:pN C d (Γ.sub A fd s.heap.objs.size f (C.fnA f)) s s' ρ σ m) (k:Kp ρ (Γ.sub A fd s.heap.objs.size f (C.fnA f)).F (Γ.sub A fd s.heap.objs.size f (C.fnA f)).X s'.heap s''.heap):Kp ρ Γ.F [] s.heap s''.heap:=by
 refine ⟨oM.trans (fun b o e=>⟨o,E.keep b o e⟩) k.live,fun b o e n _ nf=>k.keep b o (E.keep b o e) n (E.new b o e) fun q=>?_,fun b o e n _ hf=>k.slot b o (E.keep b o e) n (E.new b o e) (.tail _ hf)⟩
 rcases bN.mp q with q | q
 ·exact absurd (Heap.lt_size e) (by rw [q];exact fQ _)
 ·exact nf q
theorem pN.live {Γ':Fx} (E:pN C d Γ' s s' ρ σ m):oM s.heap s'.heap:=fun b o e=>⟨o,E.keep b o e⟩
theorem pN.grow {Γ':Fx} (E:pN C d Γ' s s' ρ σ m) (g:fO ρ ρ' s'.heap):fO ρ ρ' s.heap:=fO.trans (.refl ρ s.heap) g (mS E.live)
theorem FdOk.nsNd {f:Fn} {fd:FuncData} {body:List Stmt} (D:FdOk C f fd body):(fd.params.args.map (·.arg)).Nodup:=by
 obtain ⟨_,r',hr'⟩:=varsOf_take fd.params fd.scope
 have:=D.nd
 rw [D.vars,hr',List.nodup_append] at this
 exact this.1
theorem FdOk.plain {f:Fn} {fd:FuncData} {body:List Stmt} (D:FdOk C f fd body):Plainly fd (fd.params.args.map (·.arg)):=⟨D.po,rfl,D.ko,D.va,D.kw,D.nsNd⟩
theorem args_get {vals:List Value} {args:List V} (r:gQ s.heap ρ vals args) (i:Nat) (v:V) (h:cD (args.map some) i=some v):∃u,vals[i]? =some u∧VR s.heap ρ u v:=r.get (by rwa [oH] at h)
theorem call_body (O:C.All) (H:kE C d) {f:Fn} {fd:FuncData} {body:List Stmt} (D:FdOk C f fd body) {A:Around} {vals:List Value} {args:List V} {Q:V→aN→Prop} {X:Ex→aN→Prop} (hfr:A.frames=some Γ.fr) (hh:A.handled=none) (hroom:RoomC A (d+1)) (I:cO C Γ ρ σ m s) (hl:vals.length=fd.params.args.length) (r:gQ s.heap ρ vals args)
  (q:wpSs (wpCall d) f.info.body (args.map some++List.replicate f.info.extra none) σ (mV Q) (exK X)):
  wpAny C.M A.in1 (newFunctionEnv fd.scope fd.globals fd.closure ((fd.params.args.map (·.arg)).zip vals) (fd.qualname++ ".<locals>.") (some (C.fnA f)) fd.code none fd.builtins)
   (fun env s₂=>s₂.heap.NoLimit∧codeG C.M A (.func body env) (RC C Γ ρ m s Q X) s₂) (fun e s'=>RC C Γ ρ m s Q X (.error e) s') s:=by
 refine enter_sound O D I.pre hfr hh hroom hl (by rw [aK,r.length]) (args_get r) fun s' E _=>aO (D.run d H _ Γ.fr ρ σ _ s' _ _ E.wf rfl (scOk_of rfl) rfl D.free D.nd E.inv q) (fun fl s'' h=>?_) fun e s'' h=>?_
 ·obtain ⟨ρ',σ',m',fl',g,k,J',fr,q⟩:=h
  have J2:=I.back J' (E.grow g) (E.kp k)
  induction fr with
  | next=>exact ⟨ρ',σ',.none,E.grow g,E.kp k,J2,.none,q⟩
  | brk=>exact q.elim
  | ret rv=>exact ⟨ρ',σ',_,E.grow g,E.kp k,J2,rv,q⟩
 ·refine leave_sound (Γ:=Γ.sub A fd s.heap.objs.size f (C.fnA f)) (s0:=s') (fun b o e=>⟨o,E.keep b o (I.base b o e)⟩) E.wf.frames rfl rfl h fun s3 h=>?_
  obtain ⟨ρ',σ',m',y,g,k,J',ex,q⟩:=h
  exact ⟨ρ',σ',y,E.grow g,E.kp k,I.back J' (E.grow g) (E.kp k),ex.mono E.live fun o h=>.inr (.inl h),q⟩
theorem call_sound (O:C.All) (H:kE C d):kE C (d+1):=by
 intro A Γ ρ σ m s f vals args Q X hfr hh hroom I r q
 refine hide fun Gx hGx=>?_
 obtain ⟨m0,hm,q⟩:=q
 obtain ⟨o,fd,body,ho,hd,D⟩:=(O.fns f).ex
 refine hGx ?_
 have hcd:s.heap.CodeRec fd.code fd.qualname:=by
  obtain ⟨c,oc,vs,t,h1,h2,h3,h4⟩:=D.code
  exact ⟨c,oc,vs,t,h1,I.base _ _ h2,h3,h4⟩
 have P:=D.plain
 have hp:=D.par
 refine lY (aS (aA (aU _ _) (aU _ _)) hroom.depth) (I.base _ _ ho) hd D.co D.gen D.stmts hcd ?_
 unfold Def.start at hm
 split at hm
 ·rename_i hc
  cases hm
  rcases D.dflt with ⟨hd0,hd1⟩ | ⟨i,T,oT,n,t,hd0,hd1,hT,hTd⟩
  ·rw [hd0] at hc q
   have hlen:vals.length=fd.params.args.length:=by rw [r.length,←hp];exact kM hc.1 hc.2
   refine bind_exact (ds:=none) P (by rw [aK,hlen]) (fun Q hq=>by rw [hd1];exact (by unfold seqItems?;exact aC (aI (aI hq)))) (call_body O H D hfr hh hroom I hlen r ?_)
   rw [List.drop_nil,iS,bF] at q
   exact q
  ·rw [hd0] at hc q
   have hds:∀(Q':Option (Array Value)→Shared→Prop),Q' (some #[.int i t]) s→wpAny C.M A.in1 (seqItems? fd.defaults) Q' (fun e s'=>RC C Γ ρ m s Q X (.error e) s') s:=fun Q' hq=>by
    rw [hd1];exact wpAny_seqItems (I.base _ _ hT) hTd hq
   rcases Nat.lt_or_eq_of_le hc.1 with hlt | hlen
   ·have hlen:args.length+1=f.info.params:=kM hlt hc.2
    have hlen':(vals++[Value.int i t]).length=fd.params.args.length:=by rw [aF,r.length,←hp];exact hlen
    have q:wpSs (wpCall d) f.info.body ((args++[V.int i]).map some++List.replicate f.info.extra none) σ (mV Q) (exK X):=by
     rw [show args.length+[i].length - f.info.params=0 from Nat.sub_eq_zero_of_le (cP hlen)] at q
     rw [bI];exact q
    have main:=call_body O H D hfr hh hroom I hlen' (r.snoc_int i t) q
    revert main
    have hn:(fd.params.args.map (·.arg)).length=vals.length+1:=by rw [aK,←hlen',aF];rfl
    revert P
    generalize fd.params.args.map (·.arg)=l at hn ⊢
    intro P main
    have hne:l≠[]:=fun q=>by rw [q] at hn;cases hn
    rw [←List.dropLast_concat_getLast hne] at P main
    exact bind_dflt P (by rw [List.length_dropLast,hn];rfl) hds main
   ·have hlen':vals.length=fd.params.args.length:=by rw [r.length,←hp,hlen]
    refine bind_exact P (by rw [aK,hlen']) hds (call_body O H D hfr hh hroom I hlen' r ?_)
    rw [show args.length+[i].length - f.info.params=1 from by rw [hlen];exact dO _ _] at q
    rw [show List.drop 1 [i]=[] from rfl,iS,bF] at q
    exact q
 ·cases hm
end
end Internal
end
section
namespace Internal
open PySem PySem.W PySem.Calls PyProof.Rows Builtin
structure Cx.Names (C:Cx):Prop where
 fn:∀x f,look x fnTab=some f→C.mg x=some (.ref (C.fnA f))
 keepF:∀f,keepIn C.K (.ref (C.fnA f))=true
 cls:∀x c,look x clsTab=some c→C.mg x=some (.ref (C.clsA c))
 keepC:∀c,keepIn C.K (.ref (C.clsA c))=true
 makes:∀c,makesIn C.K (C.clsA c)=true
 init:∀c,findIn C.K (.ref (C.clsA c)) "__init__" =some (some (.ref (C.fnA c.init)))∧typeIn C.K (.ref (C.fnA c.init))=some (.type "function")
section
variable {C:Cx} {d:Nat} {sc:Scope} {vars:List Str} {Γ Γ':Fx} {ρ ρ':dI} {σ σ':aN} {m m':Lo} {s s' s₁:Shared}
theorem oK {f:Value} {first:List Value} {as:List Expr} {l:M} {pos:Pos} {Q:V→aN→Prop} {X:Ex→aN→Prop} {Q':Value→Shared→Prop} {Qs:List V→aN→Prop} (O:C.Ok) (hk:keepIn C.K f=true) (h:SL C d sc vars as l)
  (W:Γ.Wf d) (S:kG sc Γ.env) (hv:Γ.vars=vars) (I:cO C Γ ρ σ m s) (q:wpL (wpCall d) l m σ Qs X)
  (k:∀vs s₁,PL C Γ ρ m s Qs vs s₁→wpG C.M Γ.A (call f (first++vs)) Q' (PX C Γ ρ m s X) s₁):
  wpG C.M Γ.A (callWith pos f first (backTo pos (starEach as Γ.env)) []) Q' (PX C Γ ρ m s X) s:=by
 refine wpG_callWith (P:=fun h=>C.K.In h) (h.pl _ _) (keeps_K hk) (l9 (h.pl _ _) (aO (h.run Γ ρ σ m s pos _ X W S hv I q) (fun vs s₁ h=>?_) fun _ _ h=>h))
 refine ⟨?_,k vs s₁ h⟩
 obtain ⟨ρ₁,σ₁,v₁,g₁,k₁,I₁,_⟩:=h
 exact I₁.kin O
theorem Fx.Wf.roomC (W:Γ.Wf d):RoomC Γ.A d:=⟨aS (aU _ 2) W.room.depth,aS (aU _ 10) W.room.units⟩
theorem call_fn {f:Fn} {vals:List Value} {args:List V} {Q:V→aN→Prop} {X:Ex→aN→Prop} (H:kE C d) (W:Γ.Wf d) (I:cO C Γ ρ σ m s) (r:gQ s.heap ρ vals args) (q:wpCall d f args σ Q X):
  wpG C.M Γ.A (call (.ref (C.fnA f)) vals) (PQ C Γ ρ m s Q) (PX C Γ ρ m s X) s:=
 oR (kY (H Γ.A Γ ρ σ m s f vals args Q X W.frames W.handled W.roomC I r q) fun r s' h=>by
  rcases r with e | (v | _ | _ | _) <;> first | exact h | exact h.elim)
theorem SE_call (O:C.Ok) (N:C.Names) (H:kE C d) {x p as pos f l} (hg:gC sc x=true) (hf:look x fnTab=some f) (h:SL C d sc vars as l):SE C d sc vars (.Call (.Name x p) as [] pos) (.call f l):=fun Γ ρ σ m s Q X W S hv I q=>by
 refine wpG_Call (lF (glob_load O W I (S.glob _ hg) (N.fn _ _ hf) ?_) (dY (iJ hg))) rfl
 refine oK (Q:=Q) O (N.keepF f) h W S hv I q fun vs s₁ h=>?_
 obtain ⟨ρ₁,σ₁,v₁,g₁,k₁,I₁,r₁,q₁⟩:=h
 exact aO (call_fn H W I₁ r₁ q₁) (fun _ _ h=>h.after g₁ k₁) fun _ _ h=>h.after g₁ k₁
theorem cO.ltO (I:cO C Γ ρ σ m s) {b:Addr}:nB ρ b→b < top s.heap:=fun ⟨p,hp,hb⟩=>by
 have:=I.own0 p hp
 rcases hb with rfl | rfl
 ·exact this.2.2.1
 ·exact this.2.2.2
theorem SE_new (O:C.Ok) (N:C.Names) (H:kE C d) {x p as pos c l} (hg:gC sc x=true) (hf:look x clsTab=some c) (h:SL C d sc vars as l):SE C d sc vars (.Call (.Name x p) as [] pos) (.new c l):=fun Γ ρ σ m s Q X W S hv I q=>by
 refine wpG_Call (lF (glob_load O W I (S.glob _ hg) (N.cls _ _ hf) ?_) (dY (iJ hg))) rfl
 refine oK (Q:=Q) O (N.keepC c) h W S hv I q fun vs s₁ h=>?_
 obtain ⟨ρ₁,σ₁,v₁,g₁,k₁,I₁,r₁,q₁⟩:=h
 obtain ⟨hh,gg,dd,t,os⟩:=s₁
 refine oR (codeG_make (makes_of (I₁.kin O) (N.makes c)) (looks_findIn (I₁.kin O) (N.init c).1) (fun self=>bind_fn (I₁.kin O) self (N.init c).2) rfl ?_)
 have k2:∀b x,hh.get? b=some x→((hh.push emptyDict).push (instObj (C.clsA c) hh.objs.size)).get? b=some x:=fun b x e=>Heap.get?_push_of_some _ (Heap.get?_push_of_some _ e)
 have hx:((hh.push emptyDict).push (instObj (C.clsA c) hh.objs.size)).get? (hh.objs.size+1)=some (instObj (C.clsA c) hh.objs.size):=by heap_get
 have hdx:((hh.push emptyDict).push (instObj (C.clsA c) hh.objs.size)).get? hh.objs.size=some emptyDict:=Heap.get?_push_of_some _ (Heap.get?_push_size _ rfl)
 have I₂:=I₁.new (s':=⟨(hh.push emptyDict).push (instObj (C.clsA c) hh.objs.size),gg,dd,t,os⟩) (p:=(hh.objs.size+1,hh.objs.size)) (ao:=.inst c []) k2 ⟨[],0,hx,hdx,.nil⟩ (i6 (eB _)) (eB _)
 have g2:fO ρ₁ (ρ₁++[(hh.objs.size+1,hh.objs.size)]) hh:=⟨_,rfl,fun p hp=>by rw [bJ] at hp;subst hp;exact ⟨i6 (eB _),eB _⟩⟩
 have kp2:Kp ρ₁ Γ.F [] hh ((hh.push emptyDict).push (instObj (C.clsA c) hh.objs.size)):=.of_keeps k2
 have hi:(ρ₁++[(hh.objs.size+1,hh.objs.size)])[σ₁.length]? =some (hh.objs.size+1,hh.objs.size):=by rw [←I₁.len];simp
 refine kY (H _ Γ _ _ m _ c.init _ (.obj σ₁.length::v₁) _ _ W.frames W.handled ⟨?_,?_⟩ I₂ (.cons (.obj hi) (r₁.mono (.of_keeps k2) fun _ _ e=>g2.get e)) q₁) fun r s' h=>?_
 ·show Γ.A.depth+1+4*d+18 < _
  rw [cZ _ 1];exact Nat.lt_of_succ_lt W.room.depth
 ·show Γ.A.units+1+20*d+90 < _
  rw [cZ _ 1];exact aS (aU _ 9) W.room.units
 ·rcases r with e | f
  ·obtain ⟨_,_,_,_,_,_,_,q⟩:=h
   exact q.elim
  cases f <;> first | exact h.elim | skip
  ·obtain ⟨ρ₃,σ₃,v₃,g₃,k₃,I₃,r₃,rfl,q₃⟩:=h
   refine ⟨r₃.inv_none,PQ.after g₁ k₁ (PQ.after g2 kp2 ⟨ρ₃,σ₃,.obj σ₁.length,g₃,k₃,I₃,.obj (g₃.get hi),q₃⟩)⟩
theorem look_mt (n:Mt):look n.name mtTab=some n:=by cases n <;> rfl
theorem at_ne_mt (n:At) (k:Mt):(n.name==k.name)=false:=
 have h:∀n:Fin 28,(At.name n==k.name)=false:=by cases k <;> decide+kernel
 h n
theorem ERs.noMt {h:Heap} {ρ:dI} {k:Mt} {es:List DictEntry} {kvs:List (At×V)} (r:ERs h ρ es kvs):getL k.name es=some none:=by
 have h1:es.find? (·.key.isStr k.name)=Option.none∧es.any (·.refKey)=false:=by
  induction r with
  | nil=>exact ⟨rfl,rfl⟩
  | @cons hs t x n v es kvs rx l ih=>
   refine ⟨?_,?_⟩
   ·rw [List.find?_cons]
    have:(Value.str n.name t).isStr k.name=false:=by simp only [Value.isStr];exact at_ne_mt n k
    rw [this];exact ih.1
   ·rw [List.any_cons,ih.2];rfl
 unfold getL
 rw [h1.1,h1.2];rfl
theorem all_of_any {α:Type} (l:List (Bool×α)) (h:l.any (·.1)=false):l.all (fun x=>!x.1)=true:=by
 rw [←List.not_any_eq_all_not,h];rfl
theorem meth_open {o:Expr} {nm:Str} {apos pos:Pos} {as:List Expr} {Q:Value→Shared→Prop} {E:Value→Shared→Prop} (hb:gS o=true) (hlen:as.length≤20) (hline:Nat.beq apos.endLine pos.line=true) (hp:∀env pos,(backTo pos (starEach as env)).any (·.1)=false)
  (h:wpG C.M Γ.A (eval o Γ.env) (fun ov s₁=>∀pl:Sem Bool,wpAny C.M Γ.A (getMethod ov nm pl) (fun fv s₂=>wpG C.M Γ.A (callWith pos fv.1 fv.2 (backTo pos (starEach as Γ.env)) []) Q E s₂) E s₁) E s):
  wpG C.M Γ.A (eval (.Call (.Attribute o nm apos) as [] pos) Γ.env) Q E s:=by
 rw [arm_eval_Call,base_whole hb]
 refine aM (aO h (fun ov s₁ h₁=>bM ?_) fun _ _ e=>e)
 have hform:methodCallForm (as.length+([]:List Keyword).length) (backTo pos (starEach as Γ.env)) (backToKw pos (keywordEach [] Γ.env))=true:=by
  unfold methodCallForm
  rw [all_of_any _ (hp _ _)]
  have:as.length < 30:=aS hlen (by decide)
  show (true && true && decide (as.length+0+0 < 30))=true
  simpa using this
 have hpos:methodCallPos true o Γ.env apos pos=pure pos:=by
  unfold methodCallPos
  have:(apos.endLine==pos.line)=true:=by rw [beq_iff_eq];exact i0 hline
  simp [this]
 unfold methodCall
 rw [hform]
 refine aM (bL (bV (bQ (h₁ _) (fun fv s₂ h₂=>?_) fun _ _ e=>e)))
 exact aM (iW hpos h₂)
end
end Internal
end
section
namespace Internal
open PySem PySem.W PySem.Calls PyProof.Rows Builtin Builtin.Str
theorem small_log {n:Int} (h:n.natAbs < 2 ^ 128):n.natAbs.log2 < 1920:=by
 by_cases e:n.natAbs=0
 ·rw [e];decide
 ·have:=(Nat.log2_lt e (k:=128)).mpr h
  omega
theorem small_text {n:Int} (h:n.natAbs < 2 ^ 128):(PySem.Str.ofString (toString n)).length≤50:=by
 have e:=int_text_length_le10 (a:=n) (k:=39) (by decide) (aJ h (by decide))
 rw [PySem.ofString_length]
 omega
theorem abs_text {n:Int} (h:n.natAbs < 2 ^ 128):(PySem.Str.ofString (toString ((n.natAbs:Nat):Int))).length≤50:=small_text (n:=((n.natAbs:Nat):Int)) h
theorem pct_len {c:Percent} {b:Bool} {d:List Nat} (h1:c.alt=false) (h2:c.type=100) (h3:c.prec=none) (hd:d.length≤50):(percentInt c b d).length≤51:=by
 unfold percentInt
 simp only [h1,h2,h3]
 cases b <;> simp <;> omega
section
variable {M:Model} {A:Around} {E:Value→Shared→Prop} {s:Shared} {l:List Nat} {p:List Value} {r:List Nat}
 {f:Nat→List Value×Writer×List Nat→Sem (ForInStep (List Value×Writer×List Nat))} {Q:List Value×Writer×List Nat→Shared→Prop}
 {w:Writer} {T:PySem.Str} {N:Nat} {o:Option Value}
theorem after_any {t:List Nat} (g:KPc.Good w T N) (hz:t.length≤51) (ho:o=none) (h:∀w' T',KPc.Good w' T' (N+51)→wpAny M A (forIn l (p,w',r) f) Q E s):wpAny M A (forIn l (p,w.add ⟨t.toArray⟩ o,r) f) Q E s:=
 h _ _ (KPc.good_mono (KPc.good_add g (KPc.obj_none ho)) (aT (by simpa [PySem.Str.length] using hz) _))
end
theorem meets_any {t:Sem Fin} (h:∀(prog:Program) (w:World) (A:Around) (s:Shared) (Q:Fin→Shared→Prop) (E:Value→Shared→Prop),(∀T t' k,Q (.done (.ret (.str T t'))) {s with toks:=k})→wpAny (model prog w) A t Q E s):
  Meets t (fun _ R s=>∀T t' k,R (.ok (.ret (.str T t'))) {s with toks:=k}):=
 Meets.of_wp fun prog w A _ s hS=>h prog w A.in1 s _ _ fun T t' k=>⟨_,rfl,hS T t' k⟩
set_option maxHeartbeats 4000000 in
theorem pct_cmd (n:Int) (t u:Tok) (hz:n.natAbs < 2 ^ 128):Meets («str.__mod__» ⟨[.str "no command is of kind %d" t,.int n u],[]⟩) (fun _ R s=>∀T t' k,R (.ok (.ret (.str T t'))) {s with toks:=k}):=by
 have hl1:=small_log hz
 have hl2:((n.natAbs:Nat):Int).natAbs.log2 < 1920:=hl1
 rw [show (Str.ofString "no command is of kind %d" :PySem.Str)=⟨#[110,111,32,99,111,109,109,97,110,100,32,105,115,32,111,102,32,107,105,110,100,32,37,100]⟩ from by decide+kernel]
 apply meets_any
 intro _ _ _ _ _ _ hQ
 rw [KPc.entry_is]
 unfold Builtin.Str.percentFormat
 refine aC (mR (typeIs_int _ _ _) F.sub_int_tuple ?_)
 refine aC (dA (a:=none) rfl ?_)
 refine aC (dA (KPc.fills _ _) ?_)
 kpc_if
 refine aC (aI ?_)
 refine aC ?_
 rw [KPc.range_list]
 refine KPc.start ?_
 intro _ _
 refine KPc.turn ?_
 kpc_check
 repeat kpc_if
 refine aI ?_
 kpc_piece
 refine KPc.turn ?_
 kpc_check
 repeat kpc_if
 refine aC ?_
 refine gN ?_
 repeat kpc_if
 kpc_conv
 refine aI ?_
 refine aI ?_
 refine after_any (by kpc_g) (pct_len rfl rfl rfl (by have:=abs_text hz;simpa [PySem.Str.length] using this)) (by kpc_none) ?_
 intro w' T' gg
 refine KPc.turn ?_
 kpc_check
 repeat kpc_if
 refine aI ?_
 kpc_if
 exact KPc.finish_ok gg (by decide+kernel) rfl fun t k=>hQ T' t k
set_option maxHeartbeats 4000000 in
theorem pct_reply (n:Int) (t u:Tok) (hz:n.natAbs < 2 ^ 128):Meets («str.__mod__» ⟨[.str "no reply has code %d" t,.int n u],[]⟩) (fun _ R s=>∀T t' k,R (.ok (.ret (.str T t'))) {s with toks:=k}):=by
 have hl1:=small_log hz
 have hl2:((n.natAbs:Nat):Int).natAbs.log2 < 1920:=hl1
 rw [show (Str.ofString "no reply has code %d" :PySem.Str)=⟨#[110,111,32,114,101,112,108,121,32,104,97,115,32,99,111,100,101,32,37,100]⟩ from by decide+kernel]
 apply meets_any
 intro _ _ _ _ _ _ hQ
 rw [KPc.entry_is]
 unfold Builtin.Str.percentFormat
 refine aC (mR (typeIs_int _ _ _) F.sub_int_tuple ?_)
 refine aC (dA (a:=none) rfl ?_)
 refine aC (dA (KPc.fills _ _) ?_)
 kpc_if
 refine aC (aI ?_)
 refine aC ?_
 rw [KPc.range_list]
 refine KPc.start ?_
 intro _ _
 refine KPc.turn ?_
 kpc_check
 repeat kpc_if
 refine aI ?_
 kpc_piece
 refine KPc.turn ?_
 kpc_check
 repeat kpc_if
 refine aC ?_
 refine gN ?_
 repeat kpc_if
 kpc_conv
 refine aI ?_
 refine aI ?_
 refine after_any (by kpc_g) (pct_len rfl rfl rfl (by have:=abs_text hz;simpa [PySem.Str.length] using this)) (by kpc_none) ?_
 intro w' T' gg
 refine KPc.turn ?_
 kpc_check
 repeat kpc_if
 refine aI ?_
 kpc_if
 exact KPc.finish_ok gg (by decide+kernel) rfl fun t k=>hQ T' t k
section
variable {prog:Program} {w:World} {A:Around} {E:Value→Shared→Prop} {s:Shared}
theorem mod_any {x:PySem.Str} {n:Int} {t u:Tok} {Q:Value→Shared→Prop} (hx:x= "no command is of kind %d" ∨x= "no reply has code %d") (hz:n.natAbs < 2 ^ 128) (h:∀T t' k,Q (.str T t') {s with toks:=k}):wpAny (model prog w) A (binaryOp .Mod (.str x t) (.int n u)) Q E s:=by
 rcases hx with rfl | rfl
 ·exact AutoFloatOps.binaryOp_left_meets (T:= "str") (U:= "int") (op:=.Mod) (by decide) (typeIs_str s _ t) (fun s'=>typeIs_int s' n u) F.fills_str_mod F.fills_int_mod F.sub_int_str F.slot_str_mod F.slot_int_rmod F.entry_str_mod (F.args_str_mod_2 _ _)
   (pct_cmd n t u hz) (fun T t' k=>⟨(fun e=>nomatch e),h T t' k⟩)
 ·exact AutoFloatOps.binaryOp_left_meets (T:= "str") (U:= "int") (op:=.Mod) (by decide) (typeIs_str s _ t) (fun s'=>typeIs_int s' n u) F.fills_str_mod F.fills_int_mod F.sub_int_str F.slot_str_mod F.slot_int_rmod F.entry_str_mod (F.args_str_mod_2 _ _)
   (pct_reply n t u hz) (fun T t' k=>⟨(fun e=>nomatch e),h T t' k⟩)
end
end Internal
end
section
namespace Internal
open PySem PySem.W PySem.Calls PyProof.Rows Builtin
section
variable {C:Cx} {d:Nat} {sc:Scope} {vars:List Str} {Γ Γ':Fx} {ρ ρ':dI} {σ σ':aN} {m m':Lo} {s s' s₁:Shared}
theorem n7 {id:String} {first:List Value} {as:List Expr} {l:M} {pos:Pos} {X:Ex→aN→Prop} {Q':Value→Shared→Prop} {Qs:List V→aN→Prop} (h:SL C d sc vars as l)
  (W:Γ.Wf d) (S:kG sc Γ.env) (hv:Γ.vars=vars) (I:cO C Γ ρ σ m s) (q:wpL (wpCall d) l m σ Qs X)
  (k:∀vs s₁,PL C Γ ρ m s Qs vs s₁→wpG C.M Γ.A (call (.builtin id) (first++vs)) Q' (PX C Γ ρ m s X) s₁):
  wpG C.M Γ.A (callWith pos (.builtin id) first (backTo pos (starEach as Γ.env)) []) Q' (PX C Γ ρ m s X) s:=
 wpG_callWith_builtin (h.pl _ _) (l9 (h.pl _ _) (aO (h.run Γ ρ σ m s pos _ X W S hv I q) k fun _ _ h=>h))
theorem PQ.upd {Q:V→aN→Prop} {i:Nat} {p:Addr×Addr} {ao:AO} {h':Heap} {t:Nat} {v:Value} {v':V} (I:cO C Γ ρ σ m s) (hi:ρ[i]? =some p)
  (k:∀b o,s.heap.get? b=some o→b≠p.1→b≠p.2→h'.get? b=some o) (r:AOR C h' ρ p ao) (rv:VR h' ρ v v') (q:Q v' (σ.set i ao)):PQ C Γ ρ m s Q v {s with heap:=h',toks:=t}:=
 ⟨ρ,σ.set i ao,v',.refl _ _,.upd hi r k,I.upd hi k r,rv,q⟩
theorem Imm.upd (I:cO C Γ ρ σ m s) {i:Nat} {p:Addr×Addr} {h':Heap} (hi:ρ[i]? =some p) (k:∀b o,s.heap.get? b=some o→b≠p.1→b≠p.2→h'.get? b=some o):Imm s.heap h':=fun b o e c=>by
 refine k b o e (fun q=>?_) fun q=>?_
 ·obtain ⟨x,e',y⟩:=I.own_odd ⟨p,a7 hi,.inl q⟩
  rw [e] at e';cases e'
  obtain ⟨c1,xs,n,c2⟩:=c
  exact y.1 xs n c2 c1
 ·obtain ⟨x,e',y⟩:=I.own_odd ⟨p,a7 hi,.inr q⟩
  rw [e] at e';cases e'
  obtain ⟨c1,xs,n,c2⟩:=c
  exact y.1 xs n c2 c1
theorem append_sound {a dd:Addr} {i:Nat} {xs:List V} {y:Value} {v:V} {Q:V→aN→Prop} {E:Value→Shared→Prop} (I:cO C Γ ρ σ m s) (hi:ρ[i]? =some (a,dd)) (hs:σ[i]? =some (.list xs)) (hz:xs.length < lim) (r:VR s.heap ρ y v)
  (q:Q .none (σ.set i (.list (xs++[v])))):wpG C.M Γ.A (call (.builtin "list.append") [.ref a,y]) (PQ C Γ ρ m s Q) E s:=by
 refine hide fun Gx hGx=>?_
 obtain ⟨hd,xs',n,e,z,rs⟩:=I.obj i _ _ hi hs
 refine hGx ?_
 obtain rfl:dd=a:=hd
 have hz':xs'.size < lim:=by rw [rs.size];exact hz
 refine bV (wpAny_list_append_plain ⟨n,e⟩ (fun h' ⟨n',e'⟩ hb=>?_) (aA (eJ _) (aA (bX z) (by decide+kernel:lim+1≤sizeLine))))
 have k:∀b o,s.heap.get? b=some o→b≠dd→b≠dd→h'.get? b=some o:=fun b o e n _=>(hb.2 b n).trans e
 have im:=Imm.upd I hi k
 refine PQ.upd (t:=s.toks) (p:=(dd,dd)) (ao:=.list (xs++[v])) I hi k ⟨rfl,_,n',e',by rw [Array.size_push];omega,?_⟩ .none q
 rw [Array.toList_push]
 exact (rs.mono im fun _ _ e=>e).append (.cons (r.mono im fun _ _ e=>e) .nil)
theorem barr_upd {a dd:Addr} {i:Nat} {xs:List Nat} {Q:V→aN→Prop} (I:cO C Γ ρ σ m s) (hi:ρ[i]? =some (a,dd)) (hs:σ[i]? =some (.barr xs)):
  ∃arr:Array UInt8,pJ s.heap a arr∧arr.size≤lim∧arr.toList.map (·.toNat)=xs∧∀(arr':Array UInt8) h',pJ h' a arr'→Heap.SameBut a s.heap h'→arr'.size≤lim→Q .none (σ.set i (.barr (arr'.toList.map (·.toNat))))→PQ C Γ ρ m s Q .none {s with heap:=h'}:=by
 refine hide fun Gx hGx=>?_
 obtain ⟨hd,arr,e,z,rs⟩:=I.obj i _ _ hi hs
 refine hGx ?_
 obtain rfl:dd=a:=hd
 refine ⟨arr,e,z,rs,fun arr' h' e' hb z' q=>?_⟩
 have k:∀b o,s.heap.get? b=some o→b≠dd→b≠dd→h'.get? b=some o:=fun b o e n _=>(hb.2 b n).trans e
 exact PQ.upd (t:=s.toks) (p:=(dd,dd)) (ao:=.barr (arr'.toList.map (·.toNat))) I hi k ⟨rfl,arr',e',z',rfl⟩ .none q
noncomputable def VRsd (h:Heap) (ρ:dI) (xs:List Value):List V→Prop
 | []=>xs=[]
 | a::l=>∃x r,xs=x::r∧VR h ρ x a∧gQ h ρ r l
theorem gQ.inv {h:Heap} {ρ:dI} {xs:List Value} {l:List V} (r:gQ h ρ xs l):VRsd h ρ xs l:=
 gQ.casesOn (motive_2:=fun xs l _=>VRsd h ρ xs l) r rfl fun a b=>⟨_,_,rfl,a,b⟩
theorem gQ.nil' {h:Heap} {ρ:dI} {vals:List Value} (r:gQ h ρ vals []):vals=[]:=r.inv
theorem gQ.one {h:Heap} {ρ:dI} {vals:List Value} {a:V} (r:gQ h ρ vals [a]):∃x,vals=[x]∧VR h ρ x a:=by
 obtain ⟨x,r,e,q,w⟩:=r.inv
 obtain rfl:=w.nil'
 exact ⟨x,e,q⟩
theorem gQ.two {h:Heap} {ρ:dI} {vals:List Value} {a b:V} (r:gQ h ρ vals [a,b]):∃x y,vals=[x,y]∧VR h ρ x a∧VR h ρ y b:=by
 refine hide fun Gx hGx=>?_
 obtain ⟨x,r,e,q,w⟩:=r.inv
 obtain ⟨y,rfl,q2⟩:=w.one
 refine hGx ?_
 exact ⟨x,y,e,q,q2⟩
theorem meth_sound (O:C.Ok) (N:C.Names) (H:kE C d) {as l} {pos:Pos} {n:Mt} {x:Value} {v:V} {Q:V→aN→Prop} {X:Ex→aN→Prop} (h:SL C d sc vars as l) (W:Γ.Wf d) (S:kG sc Γ.env) (hv:Γ.vars=vars) (I:cO C Γ ρ σ m s) (r:VR s.heap ρ x v)
  (q:WMeth (wpCall d) σ (fun R=>wpL (wpCall d) l m σ R X) Q X n v) (pl:Sem Bool):
  wpAny C.M Γ.A (getMethod x n.name pl) (fun fv s₂=>wpG C.M Γ.A (callWith pos fv.1 fv.2 (backTo pos (starEach as Γ.env)) []) (PQ C Γ ρ m s Q) (PX C Γ ρ m s X) s₂) (PX C Γ ρ m s X) s:=by
 induction q with
 | own hs hf q=>
  obtain ⟨ad,dx,rfl,hi⟩:=r.inv_obj
  have ok:=O.cls ‹Cls›
  refine hide fun Gx hGx=>?_
  obtain ⟨es,k,J,re,_⟩:=I.inst hi hs
  obtain ⟨m1,m2⟩:=ok.meth _ _ hf
  refine hGx ?_
  refine method_fn (I.kin O) J ok.get ok.noAttr m1 (beq_iff_eq.mp m2) (by show (lookIn _ (dictOf es k)).map _=_;rw [lookIn_dict,re.noMt];rfl) ?_
  refine oK (Q:=Q) O (N.keepF _) h W S hv I q fun vs s₂ h₂=>?_
  obtain ⟨ρ₂,σ₂,v₂,g₂,k₂,I₂,r₂,q₂⟩:=h₂
  exact aO (call_fn (vals:=.ref ad::vs) H W I₂ (.cons (.obj (g₂.get hi)) r₂) q₂) (fun _ _ h=>h.after g₂ k₂) fun _ _ h=>h.after g₂ k₂
 | app hs q=>
  obtain ⟨ad,dx,rfl,hi⟩:=r.inv_obj
  obtain ⟨_,xs',n',e,_,_⟩:=I.obj _ _ _ hi hs
  refine getMethod_list_append e rfl rfl ?_
  refine n7 h W S hv I q fun vs s₂ h₂=>?_
  obtain ⟨ρ₂,σ₂,v₂,g₂,k₂,I₂,r₂,q₂⟩:=h₂
  induction q₂ with
  | mk hs₂ hz q₂=>
   obtain ⟨y,rfl,ry⟩:=r₂.one
   exact aO (append_sound I₂ (g₂.get hi) hs₂ hz ry q₂) (fun _ _ h=>h.after g₂ k₂) fun _ _ h=>PX.after g₂ k₂ h
 | bapp hs q=>
  obtain ⟨ad,dx,rfl,hi⟩:=r.inv_obj
  obtain ⟨arr,e,_⟩:=barr_upd (Q:=fun _ _=>True) I hi hs
  refine getMethod_builtin (kR e) FBA.plainAttrs FBA.slot_append FBA.type_append (fun a q=>?_) ?_
  ·cases q;exact ⟨_,e,rfl⟩
  refine n7 h W S hv I q fun vs s₂ h₂=>?_
  obtain ⟨ρ₂,σ₂,v₂,g₂,k₂,I₂,r₂,q₂⟩:=h₂
  induction q₂ with
  | @mk xs v hs₂ hz h1 q₂=>
   refine hide fun Gx hGx=>?_
   obtain ⟨y,rfl,ry⟩:=r₂.one
   obtain ⟨t,rfl⟩:=ry.inv_int
   obtain ⟨arr',e',z',ex,fin⟩:=barr_upd (Q:=Q) I₂ (g₂.get hi) hs₂
   refine hGx ?_
   have hsz:arr'.size < lim:=by rw [←ex,iP] at hz;exact hz
   refine ba_append e' (aV v) (bH.mpr h1) (aJ hsz j1) fun h' b sb=>(fin _ _ b sb (by rw [Array.size_push];exact hsz) ?_).after g₂ k₂
   have e2:[(v:Int).toNat.toUInt8].map (·.toNat)=[v]:=congrArg (fun x=>[x]) (hK h1)
   rw [Array.toList_push,bI,ex,e2]
   exact q₂
 | bext hs q=>
  obtain ⟨ad,dx,rfl,hi⟩:=r.inv_obj
  obtain ⟨arr,e,_⟩:=barr_upd (Q:=fun _ _=>True) I hi hs
  refine getMethod_builtin (kR e) FBA.plainAttrs FBA.slot_extend FBA.type_extend (fun a q=>?_) ?_
  ·cases q;exact ⟨_,e,rfl⟩
  refine n7 h W S hv I q fun vs s₂ h₂=>?_
  obtain ⟨ρ₂,σ₂,v₂,g₂,k₂,I₂,r₂,q₂⟩:=h₂
  induction q₂ with
  | mk hs₂ hz q₂=>
   refine hide fun Gx hGx=>?_
   obtain ⟨y,rfl,ry⟩:=r₂.one
   obtain ⟨c,t,rfl,zc,rfl⟩:=ry.inv_bytes
   obtain ⟨arr',e',z',ex,fin⟩:=barr_upd (Q:=Q) I₂ (g₂.get hi) hs₂
   refine hGx ?_
   have hsz:arr'.size+c.size≤lim:=by rw [←ex,iP,iP] at hz;exact hz
   refine ba_extend e' (aA hsz j1) fun h' b sb=>(fin _ _ b sb (by rw [Array.size_append];exact hsz) ?_).after g₂ k₂
   rw [oQ,bI,ex]
   exact q₂
theorem SE_meth (O:C.Ok) (N:C.Names) (H:kE C d) {o x ap as pos a l nm} (hb:gS o=true) (hlen:Nat.ble as.length 20=true) (hline:Nat.beq ap.endLine pos.line=true) (hn:look x mtTab=some nm)
  (ho:SE C d sc vars o a) (h:SL C d sc vars as l):SE C d sc vars (.Call (.Attribute o x ap) as [] pos) (.meth a nm l):=fun Γ ρ σ m s Q X W S hv I q=>by
 obtain rfl:x=nm.name:=mY hn
 refine meth_open hb (bG hlen) hline h.pl (aO (ho Γ ρ σ m s _ X W S hv I q) (fun x s₁ h₁ pl=>?_) fun _ _ h=>h)
 obtain ⟨ρ₁,σ₁,v₁,g₁,k₁,I₁,r₁,q₁⟩:=h₁
 refine bQ (meth_sound O N H h W S hv I₁ r₁ q₁ pl) (fun fv s₂ h=>aO h (fun _ _ h=>h.after g₁ k₁) fun _ _ h=>h.after g₁ k₁) fun _ _ h=>h.after g₁ k₁
end
end Internal
end
section
namespace Internal
open PySem PySem.W PySem.Calls PyProof.Rows Builtin
noncomputable def Bt.val:Bt→Value
 | .len=>.builtin "len" | .bytes=>.type "bytes" | .tuple=>.type "tuple" | .sorted=>.builtin "sorted" | .min=>.builtin "min" | .range=>.type "range" | .bytearray=>.type "bytearray"
noncomputable def Cx.Blts (C:Cx):Prop:=∀b:Bt,C.mg b.name=none∧C.mb b.name=some b.val
theorem insertI_perm (a:Int) (l:List Int):(jE a l).Perm (a::l):=by
 induction l with
 | nil=>exact .refl _
 | cons b r ih=>exact ite_of (P:=(List.Perm · (a::b::r))) (fun _=>(ih.cons b).trans (.swap ..)) fun _=>.refl _
theorem insertI_sorted (a:Int) {l:List Int} (h:l.Pairwise (·≤·)):(jE a l).Pairwise (·≤·):=by
 induction h with
 | nil=>exact List.pairwise_singleton _ a
 | @cons b r h h2 ih=>
  refine ite_of (P:=List.Pairwise (·≤·)) (fun q=>.cons (fun x hx=>?_) ih) fun q=>.cons (fun x hx=>?_) (.cons h h2)
  ·exact (bN.mp ((insertI_perm a r).subset hx)).elim (fun e=>e▸q) (h x)
  ·exact (bN.mp hx).elim (fun e=>e▸eZ (pK.mp q)) fun e=>cW (eZ (pK.mp q)) (h x e)
theorem sortI_perm (l:List Int):∀acc:List Int,(l.foldl (fun l a=>jE a l) acc).Perm (l++acc):=by
 induction l with
 | nil=>exact fun _=>.refl _
 | cons a l ih=>exact fun acc=>(ih _).trans (((insertI_perm a acc).append_left l).trans List.perm_middle)
theorem sortI_sorted (l:List Int):∀acc:List Int,acc.Pairwise (·≤·)→(l.foldl (fun l a=>jE a l) acc).Pairwise (·≤·):=by
 induction l with
 | nil=>exact fun _ h=>h
 | cons a l ih=>exact fun _ h=>ih _ (insertI_sorted a h)
theorem sortI_unique {l l':List Int} (hp:l'.Perm l) (hs:l'.Pairwise (·≤·)):l'=l.foldl (fun l a=>jE a l) []:=by
 refine List.Perm.eq_of_pairwise (le:=(·≤·)) (fun a b _ _ x y=>Int.le_antisymm x y) hs (sortI_sorted l [] .nil) (hp.trans ?_)
 have:=sortI_perm l []
 rw [bF] at this
 exact this.symm
theorem gQ.ints {h:Heap} {ρ:dI} {ns:List Int}:∀{xs:List Value},gQ h ρ xs (ns.map V.int)→IntsAre xs ns:=by
 induction ns with
 | nil=>exact fun r=>r.nil'▸.nil
 | cons n ns ih=>
  intro xs r
  obtain ⟨x,l,e,a,b⟩:=r.inv
  obtain ⟨t,rfl⟩:=a.inv_int
  exact e▸.cons _ _ (ih b)
theorem IntsAre.vrs {h:Heap} {ρ:dI} {xs:List Value} {ns:List Int} (r:IntsAre xs ns):gQ h ρ xs (ns.map V.int):=by
 induction r with
 | nil=>exact .nil
 | cons _ _ _ ih=>exact .cons (.int _ _) ih
section
variable {C:Cx} {d:Nat} {sc:Scope} {vars:List Str} {Γ Γ':Fx} {ρ ρ':dI} {σ σ':aN} {m m':Lo} {s s' s₁:Shared}
theorem callWith_ty {T:String} {first:List Value} {as:List Expr} {l:M} {pos:Pos} {X:Ex→aN→Prop} {Q':Value→Shared→Prop} {Qs:List V→aN→Prop} (h:SL C d sc vars as l)
  (W:Γ.Wf d) (S:kG sc Γ.env) (hv:Γ.vars=vars) (I:cO C Γ ρ σ m s) (q:wpL (wpCall d) l m σ Qs X)
  (k:∀vs s₁,PL C Γ ρ m s Qs vs s₁→wpG C.M Γ.A (call (.type T) (first++vs)) Q' (PX C Γ ρ m s X) s₁):
  wpG C.M Γ.A (callWith pos (.type T) first (backTo pos (starEach as Γ.env)) []) Q' (PX C Γ ρ m s X) s:=
 wpG_callWith_type (h.pl _ _) (l9 (h.pl _ _) (aO (h.run Γ ρ σ m s pos _ X W S hv I q) k fun _ _ h=>h))
theorem len_tupS {t:Addr} {items:Array Value} {Q:Value→Shared→Prop} {prog:Program} {w:World} {A:Around} {E:Value→Shared→Prop} (ht:IsTup s.heap t items) (hfit:(items.size:Int) < 2 ^ 63)
  (h:Q (.int items.size (s.toks+1)) {s with toks:=s.toks+1+1}):wpAny (model prog w) A (call (.builtin "len") [.ref t]) Q E s:=
 call_function_entry kind_len plain_len entry_len (args_len1 _) (len_entry_tuple ht hfit h)
theorem PQ.more {Q:V→aN→Prop} {h':Heap} {t:Nat} {v:Value} {v':V} (I:cO C Γ ρ σ m s) (k:∀b o,s.heap.get? b=some o→h'.get? b=some o) (r:VR h' ρ v v') (q:Q v' σ):PQ C Γ ρ m s Q v {s with heap:=h',toks:=t}:=
 ⟨ρ,σ,v',.refl _ _,.of_keeps k,I.more k,r,q⟩
theorem PQ.new {Q:V→aN→Prop} {h':Heap} {t:Nat} {a:Addr} {ao:AO} (I:cO C Γ ρ σ m s) (k:∀b o,s.heap.get? b=some o→h'.get? b=some o) (hz:top s.heap≤a) (r:AOR C h' (ρ++[(a,a)]) (a,a) ao) (q:Q (.obj σ.length) (σ++[ao])):
  PQ C Γ ρ m s Q (.ref a) {s with heap:=h',toks:=t}:=by
 refine ⟨ρ++[(a,a)],σ++[ao],.obj σ.length,⟨_,rfl,fun p hp=>by rw [bJ] at hp;subst hp;exact ⟨hz,hz⟩⟩,.of_keeps k,I.new k r hz hz,.obj (d:=a) ?_,q⟩
 rw [←I.len];simp
theorem blt_sound {f:Bt} {vals:List Value} {args:List V} {Q:V→aN→Prop} {E:Value→Shared→Prop} (hh:Γ.A.handled=none) (I:cO C Γ ρ σ m s) (r:gQ s.heap ρ vals args) (q:wpBlt f args σ Q):
  wpG C.M Γ.A (call f.val vals) (PQ C Γ ρ m s Q) E s:=by
 have ll:lim≤sizeLine:=j1
 induction q with
 | lenB q=>
  obtain ⟨x,rfl,rx⟩:=r.one
  apply rx.e_bytes;intro b t z e
  subst e
  exact bV (len_bytes (aA z (by decide)) (.tk I (.int _ _) (by rw [iP] at q;exact q)))
 | lenT q=>
  obtain ⟨x,rfl,rx⟩:=r.one
  apply rx.e_tup;intro a xs n e z r
  exact bV (len_tupS ⟨_,e,rfl,n,rfl⟩ (by rw [lO] at z;omega) (.tk I (.int _ _) (by rw [r.size];exact q)))
 | lenL hs q=>
  obtain ⟨x,rfl,rx⟩:=r.one
  apply rx.e_obj;intro a dd hi
  obtain ⟨ys,n,e,z,r⟩:=I.list hi hs
  exact bV (call_len_list ⟨_,e,rfl,n,rfl⟩ (by rw [lO] at z;omega) (.tk I (.int _ _) (by rw [r.size];exact q)))
 | byB q=>
  obtain ⟨x,rfl,rx⟩:=r.one
  obtain ⟨b,t,rfl,z,e⟩:=rx.inv_bytes
  exact bV (call_bytes_bytes (.here I rx q))
 | byA hs q=>
  obtain ⟨x,rfl,rx⟩:=r.one
  apply rx.e_obj;intro a dd hi
  obtain ⟨_,arr,e,z,rfl⟩:=I.obj _ _ _ hi hs
  exact bV (call_bytes_ba e (aA z ll) fun t k=>.tk I (.bytes arr t z) q)
 | @byL i ns hs hr q=>
  obtain ⟨x,rfl,rx⟩:=r.one
  apply rx.e_obj;intro a dd hi
  obtain ⟨ys,n,e,z,r⟩:=I.list hi hs
  have hi':=r.ints
  have hlen:=hi'.length
  rw [gY] at hlen
  refine bV (call_bytes_ints (vs:=ys.toList) ⟨_,e,rfl,n,by simp⟩ hi' hr (by rw [gY];exact aA z ll) hh fun h' t k hk=>.more I hk (.bytes _ t (by rw [byteArr_size,←hlen];exact z)) ?_)
  have:(byteArr ns).toList.map (·.toNat)=ns.map Int.toNat:=by
   rw [byteArr,List.toList_toArray,fN]
   refine List.map_congr_left fun n hn=>?_
   have:=hr n hn
   show (UInt8.ofNat _).toNat=_
   rw [UInt8.toNat_ofNat'];exact hK ((Int.toNat_lt this.1).mpr this.2)
  rw [this];exact q
 | tup hs q=>
  obtain ⟨x,rfl,rx⟩:=r.one
  apply rx.e_obj;intro a dd hi
  obtain ⟨ys,n,e,z,r⟩:=I.list hi hs
  refine bV (call_tuple_list ⟨_,e,rfl,n,rfl⟩ (fun h' hk=>?_) (aA z ll))
  have k:∀b o,s.heap.get? b=some o→(h'.push {cls:=.type "tuple",data:=.seq ys}).get? b=some o:=fun b o e=>Heap.get?_push_of_some _ (hk b o e)
  exact PQ.more (t:=s.toks) I k (.tup (n:=0) (Heap.get?_push_size _ rfl) z (r.mono (.of_keeps k) fun _ _ e=>e)) q
 | @srt i ns hs hz q=>
  obtain ⟨x,rfl,rx⟩:=r.one
  apply rx.e_obj;intro a dd hi
  obtain ⟨ys,n,e,z,r⟩:=I.list hi hs
  have hi':=r.ints
  have hlen:=hi'.length
  refine bV (sorted_ints (vs:=ys.toList) ⟨_,e,rfl,n,by simp⟩ hi' (by omega) fun out ns' o1 o2 o3=>?_)
  obtain ⟨k,hk⟩:=sortedAll_at s.heap ys.toList out
  have e:=sortI_unique o2 o3
  have hl2:=o1.length
  have hl3:=o2.length_eq
  rw [gY] at hl2
  refine PQ.new (t:=s.toks) (ao:=.list _) I (fun b o e=>sortedAll_old e) (i6 (eB _)) ⟨rfl,out,k,hk,by rw [lO];omega,?_⟩ q
  rw [←e]
  exact IntsAre.vrs o1
 | @min a b q=>
  obtain ⟨x,y,rfl,r,r2⟩:=r.two
  obtain ⟨t,rfl⟩:=r.inv_int
  obtain ⟨u,rfl⟩:=r2.inv_int
  refine bV (min_two_ints hh fun h' tk hk=>?_)
  split
  ·rename_i c
   rw [show min a b=b from Int.min_eq_right (eZ ‹_›)] at q
   exact .more I hk (.int _ _) q
  ·rename_i c
   rw [show min a b=a from oO (gP.mp ‹_›)] at q
   exact .more I hk (.int _ _) q
 | barr q=>
  obtain rfl:=r.nil'
  refine make_ba fun h' hb hk=>?_
  exact PQ.new (t:=s.toks) (ao:=.barr []) I hk (eB _) ⟨rfl,#[],hb,cV _,rfl⟩ q
theorem Bt.name_look (b:Bt):look b.name fnTab=none∧look b.name clsTab=none:=by cases b <;> exact ⟨by decide+kernel,by decide+kernel⟩
theorem SE_blt (O:C.Ok) (B:C.Blts) {x p as pos b l} (hg:gC sc x=true) (hf:look x btTab=some b) (h:SL C d sc vars as l):SE C d sc vars (.Call (.Name x p) as [] pos) (.blt b l):=fun Γ ρ σ m s Q X W S hv I q=>by
 obtain rfl:x=b.name:=mY hf
 refine wpG_Call (lF (blt_load O W I (S.glob _ hg) (B b).1 (B b).2 ?_) (dY (iJ hg))) rfl
 have go:∀vs s₁,PL C Γ ρ m s (fun vs σ=>wpBlt b vs σ Q) vs s₁→wpG C.M Γ.A (call b.val ([]++vs)) (PQ C Γ ρ m s Q) (PX C Γ ρ m s X) s₁:=fun vs s₁ h=>by
  obtain ⟨ρ₁,σ₁,v₁,g₁,k₁,I₁,r₁,q₁⟩:=h
  exact aO (blt_sound W.handled I₁ r₁ q₁) (fun _ _ h=>h.after g₁ k₁) fun _ _ h=>h
 cases b <;> first | exact n7 h W S hv I q go | exact callWith_ty h W S hv I q go
end
end Internal
end
section
namespace Internal
open PySem PySem.W PySem.Calls PyProof.Rows Builtin
noncomputable def Imm2 (h h':Heap):Prop:=∀b o,h.get? b=some o→(Still o∨Rec o)→h'.get? b=some o
theorem Imm2.imm {h h':Heap} (k:Imm2 h h'):Imm h h':=fun b o e c=>k b o e (.inl c)
theorem Imm2.push {h:Heap} (o:Obj):Imm2 h (h.push o):=fun b x e _=>Heap.get?_push_of_some _ e
theorem Imm2.trans {h h' h'':Heap} (a:Imm2 h h') (b:Imm2 h' h''):Imm2 h h'':=fun x o e c=>b x o (a x o e c) c
inductive IR (h:Heap) (ρ:dI):Value→V→Prop
 | val {x:Value} {v:V}:VR h ρ x v→IR h ρ x v
 | rng {a:Addr} {n:Int}:IsRng h a n→0≤n→n≤lim→IR h ρ (.ref a) (.rng n)
theorem itemsAt_obj {i:Nat} {σ:aN} {vs:List V} (h:jD (.obj i) σ=some vs):σ[i]? =some (.list vs):=by
 revert h
 show (match σ[i]? with | some (.list vs)=>some vs | _=>none)=some vs→_
 rcases σ[i]? with _ | (vs | _ | _) <;> intro h <;> first | exact nos h | rw [Option.some.inj h]
theorem itemsAt_of {iv:V} {σ:aN} {vs us:List V} (hi:itemsOf iv=some us) (h:jD iv σ=some vs):us=vs:=by
 cases iv <;> first | exact nos hi | exact Option.some.inj (hi.symm.trans h)
noncomputable def ItO (o:Obj):Prop:=Rec o∧∃T,o.cls=.type T∧(["enumerate", "zip", "dict_itemiterator", "dict_reverseitemiterator", "odict_iterator", "itertools.zip_longest", "itertools.pairwise"].contains T)=false
inductive Src (C:Cx) (h:Heap) (ρ:dI) (I:Addr):V→Nat→Prop
 | lst {a d:Addr} {i k:Nat}:ρ[i]? =some (a,d)→h.IsListIter I a k→Src C h ρ I (.obj i) k
 | fix {iv:V} {vs:List V} {k:Nat} {fp:List Addr} {P:Nat→Value→Prop} {St:Nat→Heap→Prop}:(∀A:Around,A.handled=none→Walks C.prog C.w A I fp [I] vs.length P St)→St k h→itemsOf iv=some vs→k≤vs.length→vs.length≤lim→
   (∀b∈fp,b=I∨∃o,h.get? b=some o∧Still o)→(∀k h,St k h→∃o,h.get? I=some o∧ItO o)→(∀j u v,P j u→vs[j]? =some v→VR h ρ u v∨∃i t,u=.int i t∧v=.int i)→Src C h ρ I iv k
section
variable {C:Cx} {d:Nat} {sc:Scope} {vars:List Str} {Γ Γ':Fx} {ρ ρ':dI} {σ σ':aN} {m m':Lo} {s s' s₁:Shared} {I:Addr} {iv:V} {k:Nat}
theorem Src.rec_ {h:Heap} (S:Src C h ρ I iv k):∃o,h.get? I=some o∧ItO o:=by
 induction S with
 | lst _ h=>obtain ⟨o,e,c,d⟩:=h;exact ⟨o,e,⟨_,d⟩,_,c,by decide⟩
 | fix _ st _ _ _ _ r _=>exact r _ _ st
theorem Src.mono {h h':Heap} (S:Src C h ρ I iv k) (im:Imm2 h h') (g:∀(i:Nat) p,ρ[i]? =some p→ρ'[i]? =some p):Src C h' ρ' I iv k:=by
 induction S with
 | lst hi h=>obtain ⟨o,e,c,d⟩:=h;exact .lst (g _ _ hi) ⟨o,im _ _ e (.inr ⟨_,d⟩),c,d⟩
 | fix W st hi hk hz hfp hr hp=>
  refine .fix W ((W {} rfl).frame _ _ _ st fun b hb o e=>?_) hi hk hz (fun b hb=>?_) hr fun j u v p q=>(hp j u v p q).imp (fun r=>r.mono im.imm g) id
  ·rcases hfp b hb with rfl | ⟨o',e',c⟩
   ·obtain ⟨o',e',c⟩:=hr _ _ st
    rw [e] at e';cases e'
    exact im _ _ e (.inr c.1)
   ·rw [e] at e';cases e'
    exact im _ _ e (.inl c)
  ·rcases hfp b hb with rfl | ⟨o',e',c⟩
   ·exact .inl rfl
   ·exact .inr ⟨o',im _ _ e' (.inl c),c⟩
theorem cO.imm2 {h':Heap} (J:cO C Γ ρ σ m s) (k:Kp ρ Γ.F Γ.X s.heap h'):Imm2 s.heap h':=fun b o e c=>by
 have:=J.apart e c
 exact k.keep b o e this.1 this.2.2 this.2.1
theorem cO.loseAt {a:Addr} (J:cO C Γ ρ σ m s) (ha:top C.h₀≤a) (nO:¬nB ρ a) (nF:a∉Γ.F) (nX:a∉Γ.X) (nS:∀o,s.heap.get? a=some o→¬Still o) (k:∀b o,b≠a→s.heap.get? b=some o→s'.heap.get? b=some o) (hg:autoParam (s'.gens=s.gens) cO.more._auto_1) (ho:autoParam (s'.os=s.os) cO.more._auto_1):cO C Γ ρ σ m s':=by
 have im:Imm s.heap s'.heap:=fun b o e c=>k b o (fun q=>nS o (q▸e) c) e
 have kO:∀b,nB ρ b→∀o,s.heap.get? b=some o→s'.heap.get? b=some o:=fun b hb o e=>k b o (fun q=>nO (q▸hb)) e
 have kF:∀b∈Γ.F,∀o,s.heap.get? b=some o→s'.heap.get? b=some o:=fun b hb o e=>k b o (fun q=>nF (q▸hb)) e
 have kX:∀y∈Γ.env.cells,∀o,s.heap.get? y.2=some o→s'.heap.get? y.2=some o:=fun y hy o e=>k _ o (fun q=>nX (.tail _ (dE.mpr ⟨y,hy,q⟩))) e
 have kL:∀o,s.heap.get? Γ.env.locals=some o→s'.heap.get? Γ.env.locals=some o:=fun o e=>k _ o (fun q=>nX (q▸.head _)) e
 refine ⟨fun b o e=>k b o (fun q=>absurd (e9 e) (bK.mpr (q▸ha))) (J.base b o e),J.len,fun i p ao hp h=>?_,J.dis,fun p hp=>?_,FunFrames.keep J.frm fun b hb o e=>⟨o.slots,kF b hb o e⟩,J.frmOwn,J.frmNew,fun b hb=>?_,?_,J.newL,J.ownL,J.cells,fun y hy=>?_,J.cellsND,hg.trans J.gens,ho.trans J.os⟩
 ·exact (J.obj i p ao hp h).mono (kO _ ⟨p,a7 hp,.inl rfl⟩) (kO _ ⟨p,a7 hp,.inr rfl⟩) im fun _ _ e=>e
 ·have:=J.own0 p hp
  obtain ⟨o1,e1,_⟩:=J.own_odd ⟨p,hp,.inl rfl⟩
  obtain ⟨o2,e2,_⟩:=J.own_odd ⟨p,hp,.inr rfl⟩
  exact ⟨this.1,this.2.1,e9 (kO _ ⟨p,hp,.inl rfl⟩ _ e1),e9 (kO _ ⟨p,hp,.inr rfl⟩ _ e2)⟩
 ·obtain ⟨o,es,n,e,dd⟩:=J.frmDict b hb
  exact ⟨o,es,n,kF b hb o e,dd⟩
 ·exact J.loc.keep (fun o e=>⟨o.slots,kL o e⟩) kX im fun _ _ e=>e
 ·obtain ⟨o,w,e,dd⟩:=J.cellObj y hy
  exact ⟨o,w,kX y hy o e,dd⟩
theorem cO.notRec {a:Addr} {o:Obj} (J:cO C Γ ρ σ m s) (e:s.heap.get? a=some o) (hr:Rec o):¬nB ρ a∧a∉Γ.F∧a∉Γ.X:=J.apart e (.inr hr)
theorem cO.lose {a:Addr} {o:Obj} (J:cO C Γ ρ σ m s) (ha:top C.h₀≤a) (e:s.heap.get? a=some o) (hr:Rec o) (k:∀b o,b≠a→s.heap.get? b=some o→s'.heap.get? b=some o) (hg:autoParam (s'.gens=s.gens) cO.more._auto_1) (ho:autoParam (s'.os=s.os) cO.more._auto_1):cO C Γ ρ σ m s':=
 have h:=J.apart e (.inr hr)
 J.loseAt ha h.1 h.2.1 h.2.2 (fun o' e' c=>by rw [e] at e';cases e';obtain ⟨vs,q⟩:=hr;obtain ⟨_,xs,n,e'⟩:=c;rw [e'] at q;cases q) k hg ho
theorem Kp.lose {F X:List Addr} {h h₁ h₂:Heap} {a:Addr} (kp:Kp ρ F X h h₁) (ha:top h≤a) (lv:∀b o,h.get? b=some o→nB ρ b∨b∈X→∃o',h₁.get? b=some o') (k:∀b o,b≠a→h₁.get? b=some o→h₂.get? b=some o):Kp ρ F X h h₂:=by
 have ne:∀{b o},h.get? b=some o→b≠a:=fun e q=>absurd (e9 e) (bK.mpr (q▸ha))
 refine ⟨fun b o e=>?_,fun b o e n nx nf=>k b o (ne e) (kp.keep b o e n nx nf),fun b o e n nx hf=>?_⟩
 ·by_cases q:nB ρ b∨b∈X
  ·obtain ⟨o',e'⟩:=lv b o e q
   exact ⟨o',k b o' (ne e) e'⟩
  ·have q1:¬nB ρ b:=fun z=>q (.inl z)
   have q2:b∉X:=fun z=>q (.inr z)
   by_cases hf:b∈F
   ·obtain ⟨sl,e'⟩:=kp.slot b o e q1 q2 hf
    exact ⟨_,k b _ (ne e) e'⟩
   ·exact ⟨o,k b o (ne e) (kp.keep b o e q1 q2 hf)⟩
 ·obtain ⟨sl,e'⟩:=kp.slot b o e n nx hf
  exact ⟨sl,k b _ (ne e) e'⟩
theorem cO.liveOwn (J:cO C Γ ρ σ m s) {b:Addr} (q:nB ρ b∨b∈Γ.X):∃o,s.heap.get? b=some o:=by
 rcases q with q | q
 ·obtain ⟨o,e,_⟩:=J.own_odd q;exact ⟨o,e⟩
 ·rcases bN.mp q with q | q
  ·obtain ⟨nm,⟨o',es,ep,e',dd,_⟩,_⟩:=J.loc.ns
   exact ⟨o',q▸e'⟩
  ·obtain ⟨y,hy,q⟩:=dE.mp q
   obtain ⟨o,w,e,_⟩:=J.cellObj y hy
   exact ⟨o,q▸e⟩
theorem iter_sound {x:Value} {vs:List V} {M:Model} {A:Around} {Q:Value→Shared→Prop} {E:Value→Shared→Prop} (J:cO C Γ ρ σ m s) (r:IR s.heap ρ x iv) (hv:jD iv σ=some vs)
  (h:∀o,Rec o→Src C (s.heap.push o) ρ s.heap.objs.size iv 0→Q (.ref s.heap.objs.size) {s with heap:=s.heap.push o}):wpAny C.M A (pyIter x) Q E s:=by
 have fr:∀{a:Addr} {o:Obj},s.heap.get? a=some o→a≠s.heap.objs.size:=fun e=>cJ (Heap.lt_size e)
 cases r with
 | rng hr h0 h1=>
  rename_i a n
  obtain ⟨t₁,t₂,t₃,hr⟩:=hr
  rw [lO] at h1
  have hsz:Builtin.Range.rangeSize 0 n 1=n:=by rw [rangeSize_one];split <;> first | exact Int.sub_zero _ | exact Int.le_antisymm ‹_› (gP.mp ‹_›)
  refine wpAny_pyIter_range hr (small_one (a:=0) (b:=n) (by decide) (by decide) (cW (b:=0) (by decide) ‹_›) (pL (b:=1048576) h1 (by decide))) (h _ ⟨_,rfl⟩ ?_)
  rw [hsz]
  have hl:((List.range n.toNat).map fun (i:Nat)=>V.int (i:Int)).length=n.toNat:=by simp
  refine .fix (vs:=(List.range n.toNat).map fun (i:Nat)=>V.int (i:Int)) (fp:=[s.heap.objs.size]) (fun A hh=>hl.symm▸Walks.range hh s.heap.objs.size 0 1 n.toNat) ?_ rfl (cV _) (by rw [hl,lO];exact Int.toNat_le.mpr h1) (fun b hb=>.inl (bJ.mp hb)) (fun k h st=>⟨_,st,⟨_,rfl⟩,_,rfl,by decide⟩) fun j u v ⟨t,p⟩ q=>.inr ?_
  ·rw [hl]
   show IsRangeIter _ _ _ _ _
   have:(0:Int)+((0:Nat):Int)*1=0:=rfl
   have e2:((n.toNat:Nat):Int) - ((0:Nat):Int)=n:=(Int.sub_zero _).trans (Int.toNat_of_nonneg ‹_›)
   rw [this,e2]
   exact Heap.get?_push_size _ rfl
  ·rw [gL] at q
   obtain ⟨i,hi,rfl⟩:=fK.mp q
   obtain ⟨hj,e⟩:=aX.mp hi
   rw [lA] at e
   subst e
   exact ⟨j,t,by rw [p,Int.zero_add,Int.mul_one],rfl⟩
 | val r=>
  cases iv <;> try cases hv
  ·obtain ⟨b,t,rfl,z,e⟩:=r.inv_bytes
   refine KBw.pyIter_bytes (h _ ⟨_,rfl⟩ ?_)
   subst e
   have hl:((b.toList.map (·.toNat)).map fun (n:Nat)=>V.int (n:Int)).length=b.size:=by simp
   refine .fix (vs:=((b.toList.map (·.toNat)).map fun (n:Nat)=>V.int (n:Int))) (fp:=[s.heap.objs.size]) (fun A hh=>hl.symm▸KBw.walks hh s.heap.objs.size b t) ⟨_,Heap.get?_push_size _ rfl,rfl,rfl⟩ rfl (cV _) (by rw [hl];exact z) (fun b hb=>.inl (bJ.mp hb)) (fun k h ⟨o,e,c,dd⟩=>⟨o,e,⟨_,dd⟩,_,c,by decide⟩) fun j u v ⟨c,t,p,q⟩ q'=>.inr ?_
   rw [gL,gL,dB,p] at q'
   cases q'
   exact ⟨_,t,q,rfl⟩
  ·obtain ⟨a,xs,n,rfl,e,z,r⟩:=r.inv_tup
   have ht:s.heap.IsTuple a xs:=⟨_,e,rfl,n,rfl⟩
   refine wpAny_pyIter_tuple ht (h _ ⟨_,rfl⟩ ?_)
   have hl:=r.size
   refine .fix (fp:=[s.heap.objs.size,a]) (fun A hh=>hl▸Walks.tuple hh s.heap.objs.size a (fr e) xs) ⟨⟨_,Heap.get?_push_size _ rfl,rfl,rfl⟩,⟨_,Heap.get?_push_of_some _ e,rfl,n,rfl⟩⟩ rfl (cV _) (hl▸z)
    (fun b hb=>?_) (fun k h ⟨⟨o,e,c,dd⟩,_⟩=>⟨o,e,⟨_,dd⟩,_,c,by decide⟩) fun j u v p q=>.inl ?_
   ·rcases bN.mp hb with rfl | hb
    ·exact .inl rfl
    ·rw [bJ] at hb;subst hb
     exact .inr ⟨_,Heap.get?_push_of_some _ e,rfl,_,_,rfl⟩
   ·obtain ⟨u',hu,ru⟩:=r.get q
    rw [dB] at hu
    have p':xs[j]? =some u:=p
    rw [p'] at hu;cases hu
    exact ru.push _
  ·cases r
  ·rename_i i
   obtain ⟨a,dd,rfl,hi⟩:=r.inv_obj
   obtain ⟨xs,n,e,z,r⟩:=J.list hi (itemsAt_obj hv)
   exact wpAny_pyIter_list ⟨_,e,rfl,n,rfl⟩ (h _ ⟨_,rfl⟩ (.lst hi ⟨_,Heap.get?_push_size _ rfl,rfl,rfl⟩))
theorem self_sound {M:Model} {A:Around} {Q:Value→Shared→Prop} {E:Value→Shared→Prop} (hh:A.handled=none) (S:Src C s.heap ρ I iv k) (h:Q (.ref I) s):wpAny C.M A (pyIter (.ref I)) Q E s:=by
 induction S with
 | lst _ hi=>exact wpAny_pyIter_listiter hi h
 | fix W st=>exact (W A hh).self _ _ _ _ st h
theorem next_sound {vs:List V} {A:Around} {Q:Option Value→Shared→Prop} {E:Value→Shared→Prop} (hh:A.handled=none) (J:cO C Γ ρ σ m s) (S:Src C s.heap ρ I iv k) (hv:jD iv σ=some vs)
  (h1:∀v u h' tk,vs[k]? =some v→VR h' ρ u v→Src C h' ρ I iv (k+1)→(∀b o,b≠I→s.heap.get? b=some o→h'.get? b=some o)→Q (some u) {s with heap:=h',toks:=tk})
  (h0:∀h' tk,vs[k]? =none→(∀b o,b≠I→s.heap.get? b=some o→h'.get? b=some o)→Q none {s with heap:=h',toks:=tk}):wpAny C.M A (pyNext (.ref I)) Q E s:=by
 have recI:=S.rec_
 have im:∀{h':Heap},(∀b o,b≠I→s.heap.get? b=some o→h'.get? b=some o)→Imm s.heap h':=fun k b o e c=>by
  refine k b o (fun q=>?_) e
  obtain ⟨o',e',⟨vs,r⟩,_⟩:=recI
  rw [q] at e;rw [e] at e';cases e'
  obtain ⟨_,xs,n,e'⟩:=c
  rw [e'] at r;cases r
 cases S with
 | lst hi it=>
  rename_i a dd i
  have hs:=itemsAt_obj hv
  obtain ⟨xs,n,e,z,r⟩:=J.list hi hs
  have hl:s.heap.IsList a xs:=⟨_,e,rfl,n,rfl⟩
  have hne:a≠I:=fun q=>by
   obtain ⟨o,e',_,dt⟩:=it
   rw [←q,e] at e';cases e';cases dt
  cases hx:vs[k]? with
  | none=>
   refine wpAny_pyNext_list_end hh it hl ?_ fun h' he=>h0 h' s.toks hx fun b o n e=>he b o n e
   rw [Array.getElem?_eq_none]
   rw [List.getElem?_eq_none_iff] at hx
   rw [r.size];exact hx
  | some v=>
   obtain ⟨u,hu,ru⟩:=r.get hx
   rw [dB] at hu
   refine wpAny_pyNext_list_item it hl hu fun h' hit' hs'=>?_
   have kk:∀b o,b≠I→s.heap.get? b=some o→h'.get? b=some o:=fun b o n e=>(hs'.2 b n).trans e
   exact h1 v u h' s.toks hx (ru.mono (im kk) fun _ _ e=>e) (.lst hi hit') kk
 | fix W st hi hk hz hfp hr hp=>
  rename_i vs' fp P St
  obtain rfl:=itemsAt_of hi hv
  by_cases hlt:k < vs'.length
  ·have hx:=c5 hlt
   refine (W A hh).item k s _ _ hlt st fun u h' tk p st' kk=>?_
   have kk':∀b o,b≠I→s.heap.get? b=some o→h'.get? b=some o:=fun b o n e=>kk b o (by simpa using n) e
   have hpm:∀j u v,P j u→vs'[j]? =some v→VR h' ρ u v∨∃i t,u=.int i t∧v=.int i:=fun j u v p q=>(hp j u v p q).imp (fun r=>r.mono (im kk') fun _ _ e=>e) id
   refine h1 _ u h' tk hx ?_ (.fix W st' hi hlt hz (fun b hb=>?_) hr hpm) kk'
   ·rcases hpm _ _ _ p hx with r | ⟨i,t,rfl,e⟩
    ·exact r
    ·rw [e];exact .int i t
   ·rcases hfp b hb with rfl | ⟨o',e',c⟩
    ·exact .inl rfl
    ·exact .inr ⟨o',im kk' _ _ e' c,c⟩
  ·obtain rfl:k=vs'.length:=kM hk (bK.mp hlt)
   refine (W A hh).done s _ _ st fun h' tk kk=>h0 h' tk (List.getElem?_eq_none (bD _)) fun b o n e=>kk b o (by simpa using n) e
theorem src_lim {vs:List V} (J:cO C Γ ρ σ m s) (S:Src C s.heap ρ I iv k) (hv:jD iv σ=some vs):vs.length≤lim:=by
 induction S with
 | lst hi it=>
  obtain ⟨xs,n,e,z,r⟩:=J.list hi (itemsAt_obj hv)
  rw [←r.size];exact z
 | fix W st hi hk hz hfp hr hp=>
  obtain rfl:=itemsAt_of hi hv
  exact hz
end
end Internal
end
section
namespace Internal
open PySem PySem.W PySem.Calls PyProof.Rows Builtin
inductive Names:List Expr→List Str→Prop
 | nil:Names [] []
 | cons {x:Str} {p:Pos} {es:List Expr} {xs:List Str}:Names es xs→Names (.Name x p::es) (x::xs)
inductive Tg:Expr→List Str→Nat→Prop
 | name {x:Str} {p:Pos}:Tg (.Name x p) [x] 0
 | tup {es:List Expr} {n:Nat} {p:Pos} {xs:List Str} (h:Names es xs):Tg (.Tuple es n p) xs xs.length
inductive kB (sc:Scope) (vars:List Str):List Str→List Nat→Prop
 | nil:kB sc vars [] []
 | cons {x:Str} {i:Nat} {xs:List Str} {is:List Nat} (h:o7 sc vars x=some i) (r:kB sc vars xs is):kB sc vars (x::xs) (i::is)
theorem Names.length {es:List Expr} {xs:List Str} (h:Names es xs):es.length=xs.length:=by
 induction h with
 | nil=>rfl
 | cons _ ih=>simp [ih]
noncomputable def Stored (Γ:Fx) (X:List Addr) (x:Str):Prop:=(Γ.env.kindOf x=some .local∧Γ.env.locals∈X)∨(Γ.env.kindOf x=some .cell∧∀c,Γ.env.cells.lookup x=some c→c∈X)
inductive Tgts (Γ:Fx) (X:List Addr):List Nat→List Str→Prop
 | nil:Tgts Γ X [] []
 | cons {i:Nat} {x:Str} {is:List Nat} {xs:List Str}:Γ.vars[i]? =some x→Stored Γ X x→Tgts Γ X is xs→Tgts Γ X (i::is) (x::xs)
theorem Tgts.length {Γ:Fx} {X:List Addr} {is:List Nat} {xs:List Str} (h:Tgts Γ X is xs):is.length=xs.length:=by
 induction h with
 | nil=>rfl
 | cons _ _ _ ih=>simp [ih]
noncomputable def PA (C:Cx) (Γ:Fx) (X:List Addr) (ρ:dI) (σ:aN) (m:Lo) (s:Shared):Unit→Shared→Prop:=fun _ s'=>Kp ρ Γ.F X s.heap s'.heap∧cO C Γ ρ σ m s'
theorem Kp.sameBut {ρ:dI} {F X:List Addr} {h h':Heap} {a:Addr} (hs:Heap.SameBut a h h') (hl:∃o,h'.get? a=some o) (ha:a∈X):Kp ρ F X h h':=by
 have k:∀b o,h.get? b=some o→b≠a→h'.get? b=some o:=fun b o e n=>(hs.2 b n).trans e
 exact ⟨fun b o e=>by
  by_cases q:b=a
  ·obtain ⟨o',e'⟩:=hl;exact ⟨o',q▸e'⟩
  ·exact ⟨o,k b o e q⟩,fun b o e _ nx _=>k b o e fun q=>nx (q▸ha),fun b o e _ nx _=>⟨o.slots,k b o e fun q=>nx (q▸ha)⟩⟩
section
variable {C:Cx} {d:Nat} {sc:Scope} {vars:List Str} {Γ Γ':Fx} {ρ ρ':dI} {σ σ':aN} {m m':Lo} {s s' s₁:Shared} {I:Addr} {iv:V} {k:Nat} {M:Model} {A:Around} {E:Value→Shared→Prop} {X:List Addr}
theorem nodup_at {l:List Str} (nd:l.Nodup) {i j:Nat} {x:Str} (hi:l[i]? =some x) (hj:l[j]? =some x):j=i:=by
 obtain ⟨h1,e1⟩:=aX.mp hi
 obtain ⟨h2,e2⟩:=aX.mp hj
 exact (List.getElem_inj nd).mp (e2.trans e1.symm)
theorem store_sound {x:Str} {i:Nat} {u:Value} {v:V} (J:cO C Γ ρ σ m s) (hf:Γ.env.scope.kind=.function) (nd:Γ.vars.Nodup) (hx:Γ.vars[i]? =some x) (hk:Stored Γ X x) (r:VR s.heap ρ u v):
  wpAny M A (storeName Γ.env x u) (PA C Γ X ρ σ (jY m i v) s) E s:=by
 have hvar:∀(j:Nat),Γ.vars[j]? =some x→j=i:=fun j hj=>nodup_at nd hx hj
 rcases hk with ⟨hk,hX⟩ | ⟨hk,hX⟩
 ·refine hide fun Gx hGx=>?_
  obtain ⟨nm,n,_⟩:=J.loc.ns
  refine hGx ?_
  refine wpAny_storeName_local hk n (fun h' n' hs=>?_) (by rw [hf];rfl)
  have:=J.setLocal (s':={s with heap:=h',toks:=s.toks+1}) hx r hvar (fun nm' hn'=>?_) hs hk
  ·refine ⟨.sameBut hs ?_ hX,this.1⟩
   obtain ⟨o,_,_,e,_⟩:=n';exact ⟨o,e⟩
  ·refine hide fun Gx hGx=>?_
   obtain ⟨o,es,ep,e,dd,rr⟩:=hn'
   obtain ⟨o2,es2,ep2,e2,dd2,rr2⟩:=n
   refine hGx ?_
   rw [e] at e2;cases e2
   have:nm'=nm:=by
    rw [dd] at dd2;cases dd2
    funext y
    rw [←rr.2 y,←rr2.2 y]
   rw [this];exact n'
 ·refine hide fun Gx hGx=>?_
  obtain ⟨c,o,w,hc,ho,hd,_⟩:=J.loc.cell i x hx (.inl hk)
  refine hGx ?_
  refine wpAny_storeName_cell hf hk hc ⟨o,ho,hd⟩ fun h' n' hs=>?_
  have:=J.setCell (s':={s with heap:=h'}) hx r hvar hc n' hs hk
  refine ⟨.sameBut hs ?_ (hX c hc),this.1⟩
  obtain ⟨o,e,_⟩:=n';exact ⟨o,e⟩
theorem jU {x:Str} {p:Pos} {i:Nat} {u:Value} {v:V} (J:cO C Γ ρ σ m s) (hf:Γ.env.scope.kind=.function) (nd:Γ.vars.Nodup) (hx:Γ.vars[i]? =some x) (hk:Stored Γ X x) (r:VR s.heap ρ u v):
  wpAny M A (assign (.Name x p) Γ.env u) (PA C Γ X ρ σ (jY m i v) s) E s:=wpAny_assign_Name (store_sound J hf nd hx hk r)
theorem PA.after {s₁ s₂:Shared} {u:Unit} (k:Kp ρ Γ.F X s.heap s₁.heap) (h:PA C Γ X ρ σ m s₁ u s₂):PA C Γ X ρ σ m s u s₂:=⟨k.trans (.refl _ _) h.1,h.2⟩
theorem assign_list:∀{es:List Expr} {xs:List Str} {is:List Nat} {us:List Value} {vs:List V} {m:Lo} {s:Shared},Names es xs→Tgts Γ X is xs→gQ s.heap ρ us vs→us.length=xs.length→cO C Γ ρ σ m s→Γ.env.scope.kind=.function→Γ.vars.Nodup→(∀b∈X,b∈Γ.X)→
  wpAny M A (assignInOrder ((assignEach es Γ.env).map (·.2)) us) (PA C Γ X ρ σ (setVs m is vs) s) E s
 | _,_,_,_,_,m,s,.nil,.nil,r,hl,J,_,_,_=>by
  exact assignInOrder_nil ⟨.refl _ _ _ _,J⟩
 | _,_,_,_,_,m,s,.cons (x:=x) (p:=p) (es:=es) hn,.cons (i:=i) (is:=is) hx hk ht,r,hl,J,hf,nd,hX=>by
  cases r with
  | nil=>simp at hl
  | cons r rs=>
   refine assignInOrder_cons (bQ (jU J hf nd hx hk r) (fun _ s₁ h=>?_) fun _ _ e=>e)
   exact bQ (assign_list hn ht (rs.mono (J.immX (h.1.monoX hX)) fun _ _ e=>e) (by simpa using hl) h.2 hf nd hX) (fun _ _ h'=>h'.after h.1) fun _ _ e=>e
theorem o4:∀{es:List Expr} {xs:List Str} {env:Env},Names es xs→(assignEach es env).length=es.length∧(assignEach es env).findIdx? (·.1)=none
 | _,_,_,.nil=>⟨rfl,rfl⟩
 | _,_,env,.cons (x:=x) (p:=p) (es:=es) h=>by
  obtain ⟨a,b⟩:=o4 (env:=env) h
  show ((false,assign (.Name x p) env)::assignEach es env).length=_∧_
  refine ⟨by rw [cK,cK,a],?_⟩
  show ((false,assign (.Name x p) env)::assignEach es env).findIdx? (·.1)=none
  rw [List.findIdx?_cons,b];rfl
theorem assign_tup {es:List Expr} {xs:List Str} {is:List Nat} {n:Nat} {p:Pos} {u:Value} {vs:List V} (hh:A.handled=none) (J:cO C Γ ρ σ m s) (hf:Γ.env.scope.kind=.function) (nd:Γ.vars.Nodup) (hX:∀b∈X,b∈Γ.X) (hn:Names es xs) (ht:Tgts Γ X is xs) (r:VR s.heap ρ u (.tup vs)) (hl:vs.length=is.length):
  wpAny C.M A (assign (.Tuple es n p) Γ.env u) (PA C Γ X ρ σ (setVs m is vs) s) E s:=by
 refine hide fun Gx hGx=>?_
 obtain ⟨a,ys,k,rfl,e,z,rs⟩:=r.inv_tup
 obtain ⟨l1,l2⟩:=o4 (env:=Γ.env) hn
 refine hGx ?_
 refine wpAny_assign_Tuple hh ⟨_,e,rfl,k,rfl⟩ (by rw [l1,hn.length,←ht.length,←hl,rs.size]) l2 fun h' he=>?_
 have k':∀b o,s.heap.get? b=some o→h'.get? b=some o:=fun b o e=>he b o (cJ (Heap.lt_size e)) e
 exact bQ (assign_list (s:={s with heap:=h'}) hn ht (rs.mono (.of_keeps k') fun _ _ e=>e) (by rw [rs.length,hl,ht.length]) (J.more k') hf nd hX) (fun _ _ h=>h.after (.of_keeps k')) fun _ _ e=>e
theorem bind_sound {tg:Expr} {xs:List Str} {kk:Nat} {is:List Nat} {u:Value} {v:V} (hh:A.handled=none) (J:cO C Γ ρ σ m s) (hf:Γ.env.scope.kind=.function) (nd:Γ.vars.Nodup) (hX:∀b∈X,b∈Γ.X) (htg:Tg tg xs kk) (ht:Tgts Γ X is xs) (r:VR s.heap ρ u v)
  (hb:bindT m is (kk==0) v=some m'):wpAny C.M A (assign tg Γ.env u) (PA C Γ X ρ σ m' s) E s:=by
 rcases htg with _ | hn
 ·cases ht with
  | cons hx hk ht=>
   cases ht
   exact Option.some.inj hb▸jU J hf nd hx hk r
 ·cases xs with
  | nil=>
   cases ht
   exact nos hb
  | cons x xs=>
   cases v <;> first | exact nos hb | skip
   rcases ite_ind (P:=(·=some m')) hb with ⟨hl,hb⟩ | ⟨_,hb⟩
   ·exact Option.some.inj hb▸assign_tup hh J hf nd hX hn ht r hl
   ·exact nos hb
noncomputable def isTL (e:Expr):Bool:=Nat.beq e.ctorIdx 24 || Nat.beq e.ctorIdx 25
theorem lo_eq {t v:Value}:∀e:Expr,letOwnedTupleGo e t v=cond (isTL e) (letOwnedTupleGo (.List [] default) t v) (pure ()):=by
 intro e
 cases e <;> rfl
theorem goes_not {tg:Expr} {u:Value} {α:Type} {f:Unit→Sem α} {Q:α→Shared→Prop} (S:Src C s.heap ρ I iv k)
  (hq:wpG M A (f ()) Q E s):wpG M A (letOwnedTupleGo tg (.ref I) u >>=f) Q E s:=by
 refine aM ?_
 rw [lo_eq]
 induction isTL tg with
 | false=>exact aY hq
 | true=>
  induction u with
  | ref a=>
   refine hide fun Gx hGx=>?_
   obtain ⟨o,e,_,T,hT,hn⟩:=S.rec_
   refine hGx ?_
   refine bV (aC (kQ e ?_))
   rw [hT]
   cases hd:o.data <;> first | exact aI hq | skip
   dsimp only
   rw [hn]
   exact aI hq
  | _=>exact aY hq
end
end Internal
end
section
namespace Internal
open PySem PySem.W PySem.Calls PyProof.Rows Builtin
theorem memS_of {x:Str} {l:List Str} (h:x∈l):memS x l=true:=by
 induction h with
 | head l=>exact gX.mpr (.inl (sEq_refl x))
 | tail y _ ih=>exact gX.mpr (.inr ih)
theorem mB {l:List Str}:nodupS l=true→l.Nodup:=by
 induction l with
 | nil=>exact fun _=>.nil
 | cons x r ih=>exact fun h=>gH.mpr ⟨fun q=>bfE ((nF (aL h)).symm.trans (memS_of q)),ih (aR h)⟩
theorem oF {x:Str} {k:NameKind} {l:List (Str×NameKind)}:(l.map (·.1)).Nodup→(x,k)∈l→l.lookup x=some k:=by
 induction l with
 | nil=>exact fun _ h=>nomatch h
 | cons y r ih=>
  intro nd h
  rw [cA]
  have nd':=gH.mp nd
  rcases bN.mp h with h2 | h2
  ·rw [←h2,beq_self_eq_true]
  ·rw [show (x==y.1)=false from beq_eq_false_iff_ne.mpr fun q=>nd'.1 (dE.mpr ⟨(x,k),h2,q⟩)]
   exact ih nd'.2 h2
structure nH (sc sc':Scope) (xs:List Str):Prop where
 kind:sc'.kind=.function
 cell:∀y∈sc'.names,y.2≠.cell
 nd:(sc'.names.map (·.1)).Nodup
 ndX:xs.Nodup
 ne:xs≠[]
 loc:∀x∈xs,sc'.names.lookup x=some .local
 free:∀x∈bO sc',sc.names.lookup x=some .cell∨sc.names.lookup x=some .free
theorem compOk_some {sc sc':Scope} {xs:List Str} (h:compOk sc sc' xs=true):nH sc sc' xs:=by
 have h3:=aR (aR h)
 have h5:=aR (aR h3)
 exact ⟨of_decide_eq_true (aL h),fun y hy=>of_decide_eq_true (cF.mp (aL (aR h)) y hy),mB (aL h3),mB (aL (aR h3)),fun q=>by subst q;exact bfE (aL h5),fun x hx=>lG x _▸of_decide_eq_true (aL (cF.mp (aL (aR h5)) x hx)),
  fun x hx=>lG x _▸or_dec (aL (cF.mp (aR (aR h5)) x hx))⟩
theorem i9 {sc:Scope} {x:Str}:x∈bO sc ↔ (x,NameKind.free)∈sc.names:=by
 unfold bO
 rw [List.mem_filterMap]
 constructor
 ·rintro ⟨⟨y,k⟩,hy,e⟩
  cases k <;> cases e
  exact hy
 ·intro h
  exact ⟨_,h,rfl⟩
theorem freeNames_nodup {sc:Scope} (nd:(sc.names.map (·.1)).Nodup):(bO sc).Nodup:=by
 unfold bO
 revert nd
 generalize sc.names=l
 intro nd
 induction l with
 | nil=>exact .nil
 | cons y l ih=>
  obtain ⟨n,k⟩:=y
  have nd':=gH.mp nd
  rw [gW]
  cases k <;> try exact ih nd'.2
  refine gH.mpr ⟨fun q=>?_,ih nd'.2⟩
  obtain ⟨⟨z,k⟩,hz,e⟩:=List.mem_filterMap.mp q
  cases k <;> cases e
  exact nd'.1 (dE.mpr ⟨_,hz,rfl⟩)
theorem pG {env:Env}:∀(l:List (Str×NameKind)) (acc:List (Str×Addr)),(∀x,(x,NameKind.free)∈l→∃a,env.cells.lookup x=some a)→
  ∃cl,(forIn (m:=Sem) l acc fun y cs=>if y.2==NameKind.free then (do let a←cellOf env y.1;pure (ForInStep.yield ((y.1,a)::cs))) else pure (ForInStep.yield cs))=pure cl∧
   (∀z∈cl,z∈acc∨(z.1,NameKind.free)∈l∧env.cells.lookup z.1=some z.2)∧(∀z∈acc,z∈cl)∧∀x,(x,NameKind.free)∈l→∃a,(x,a)∈cl
 | [],acc,_=>⟨acc,rfl,fun z hz=>.inl hz,fun z hz=>hz,fun x hx=>by cases hx⟩
 | (y,k)::r,acc,h=>by
  rw [List.forIn_cons]
  by_cases hk:k=.free
  ·subst hk
   refine hide fun Gx hGx=>?_
   obtain ⟨a,ha⟩:=h y (.head _)
   obtain ⟨cl,e,h1,h2,h3⟩:=pG r ((y,a)::acc) fun x hx=>h x (.tail _ hx)
   refine hGx ?_
   refine ⟨cl,?_,fun z hz=>?_,fun z hz=>h2 z (.tail _ hz),fun x hx=>?_⟩
   ·have:cellOf env y=pure a:=by unfold cellOf;rw [ha]
    rw [if_pos (by rfl),this]
    exact e
   ·rcases h1 z hz with q | ⟨q,q2⟩
    ·rcases bN.mp q with rfl | q
     ·exact .inr ⟨.head _,ha⟩
     ·exact .inl q
    ·exact .inr ⟨.tail _ q,q2⟩
   ·rcases bN.mp hx with q | q
    ·cases q;exact ⟨a,h2 _ (.head _)⟩
    ·exact h3 x q
  ·obtain ⟨cl,e,h1,h2,h3⟩:=pG r acc fun x hx=>h x (.tail _ hx)
   refine ⟨cl,?_,fun z hz=>(h1 z hz).imp id fun q=>⟨.tail _ q.1,q.2⟩,h2,fun x hx=>?_⟩
   ·rw [if_neg (by simpa using hk)]
    exact e
   ·rcases bN.mp hx with q | q
    ·cases q;exact absurd rfl hk
    ·exact h3 x q
theorem lookup_mem_ex {x:Str} {a:Addr}:∀{l:List (Str×Addr)},(x,a)∈l→∃b,l.lookup x=some b
 | y::l,h=>by
  rw [cA]
  cases q:x==y.1 with
  | true=>exact ⟨_,rfl⟩
  | false=>
   rcases bN.mp h with rfl | h
   ·simp at q
   ·exact lookup_mem_ex h
theorem closure_of {sc':Scope} {env:Env} (h:∀x∈bO sc',∃a,env.cells.lookup x=some a):
  ∃cl,closureFor sc' env=pure cl∧(∀z∈cl,z.1∈bO sc'∧env.cells.lookup z.1=some z.2)∧∀x∈bO sc',cl.lookup x=env.cells.lookup x:=by
 refine hide fun Gx hGx=>?_
 obtain ⟨cl,e,h1,_,h3⟩:=pG (env:=env) sc'.names [] fun x hx=>h x (i9.mpr hx)
 refine hGx ?_
 have h1':∀z∈cl,z.1∈bO sc'∧env.cells.lookup z.1=some z.2:=fun z hz=>by
  rcases h1 z hz with q | ⟨q,q2⟩
  ·cases q
  ·exact ⟨i9.mpr q,q2⟩
 refine ⟨cl,?_,h1',fun x hx=>?_⟩
 ·unfold closureFor
  show (forIn (m:=Sem) sc'.names [] _ >>=pure)=_
  rw [show (forIn (m:=Sem) sc'.names ([]:List (Str×Addr)) _)=pure cl from e]
  rfl
 ·obtain ⟨a,ha⟩:=h3 x (i9.mp hx)
  obtain ⟨b,hb⟩:=lookup_mem_ex ha
  rw [hb,(h1' _ (eV hb)).2]
theorem iI {env:Env} {x:Str}:∀{names:List (Str×NameKind)},∃r,(names.map fun (n,k)=>if (k==NameKind.free && env.scope.kind==.function && env.kindOf n==some .cell) then (n,NameKind.cell) else (n,k)).lookup x=r∧
  ((r=names.lookup x)∨(names.lookup x=some .free∧r=some .cell))
 | []=>⟨none,rfl,.inl rfl⟩
 | (n,k)::l=>by
  obtain ⟨r,hr,q⟩:=iI (env:=env) (x:=x) (names:=l)
  rw [kI]
  dsimp only
  by_cases hc:(k==NameKind.free && env.scope.kind==.function && env.kindOf n==some .cell)=true
  ·rw [if_pos hc,cA,cA]
   cases x==n with
   | true=>
    refine ⟨_,rfl,.inr ⟨?_,rfl⟩⟩
    simp only [hV,beq_iff_eq] at hc
    rw [hc.1.1]
   | false=>exact ⟨r,hr,q⟩
  ·rw [if_neg hc,cA,cA]
   cases x==n with
   | true=>exact ⟨_,rfl,.inl rfl⟩
   | false=>exact ⟨r,hr,q⟩
section
variable {C:Cx} {d:Nat} {sc sc':Scope} {vars:List Str} {Γ Γ':Fx} {ρ ρ':dI} {σ σ':aN} {m m':Lo} {s s' s₁:Shared} {I D L:Addr} {iv:V} {k:Nat} {cl:List (Str×Addr)} {xs:List Str} {caps:List Nat}
noncomputable def Fx.block (Γ:Fx) (sc':Scope) (cl:List (Str×Addr)) (L:Addr) (xs:List Str):Fx:={A:=Γ.A,env:=compEnvC sc' cl L Γ.env,fr:=Γ.fr,vars:=xs++bO sc'}
theorem Fx.Wf.block (W:Γ.Wf d) (K:nH sc sc' xs):(Γ.block sc' cl L xs).Wf d:=
 ⟨W.frames,by obtain ⟨t,r,L,a,b,c⟩:=W.top;exact ⟨t,r,L,a,b,c⟩,K.kind,W.glob,W.blt,W.handled,W.room⟩
theorem kG.block (Γ:Fx) (sc':Scope) (cl:List (Str×Addr)) (L:Addr) (xs:List Str):kG sc' (Γ.block sc' cl L xs).env:=by
 refine ⟨fun x hx=>?_,fun x hx=>?_,fun x hx=>?_⟩
 ·have hx:=isGlob_lk hx
  obtain ⟨r,hr,q⟩:=iI (env:=Γ.env) (x:=x) (names:=sc'.names)
  show List.lookup x (sc'.names.map _)=_
  rw [hr]
  rcases q with q | q
  ·rw [q,hx]
  ·rw [q.1] at hx;cases hx
 ·have hx:=isVar_lk hx
  obtain ⟨r,hr,q⟩:=iI (env:=Γ.env) (x:=x) (names:=sc'.names)
  show isVarK (List.lookup x (sc'.names.map _))
  rw [hr]
  rcases q with q | q
  ·rw [q];exact hx
  ·exact .inr (.inl q.2)
 ·obtain ⟨r,hr,q⟩:=iI (env:=Γ.env) (x:=x) (names:=sc'.names)
  show List.lookup x (sc'.names.map _)=_∨List.lookup x (sc'.names.map _)=_
  rw [hr]
  rcases q with q | q
  ·rw [q];exact hx
  ·exact .inl q.2
theorem kB.get {l:List Str} {is:List Nat} (h:kB sc vars l is):l.length=is.length∧∀(j:Nat) x,l[j]? =some x→∃i,is[j]? =some i∧vars[i]? =some x:=by
 induction h with
 | nil=>exact ⟨rfl,fun j x q=>nomatch q⟩
 | cons h r ih=>
  refine ⟨congrArg (·+1) ih.1,fun j x q=>?_⟩
  induction j with
  | zero=>cases q;exact ⟨_,rfl,(fF h).2⟩
  | succ j=>exact ih.2 j x q
theorem getV_caps:∀(l:List Nat) (j:Nat),cD (l.map (cD m)) j=(l[j]?).bind (cD m)
 | [],_=>rfl
 | _::_,0=>rfl
 | _::l,j+1=>by simpa [cD] using getV_caps l j
noncomputable def lC (m:Lo) (n:Nat) (caps:List Nat):Lo:=List.replicate n none++caps.map (cD m)
theorem cO.block (J:cO C Γ ρ σ m s) (K:nH sc sc' xs) (S:kG sc Γ.env) (hv:Γ.vars=vars) (hcap:kB sc vars (bO sc') caps) (hcl1:∀z∈cl,z.1∈bO sc'∧Γ.env.cells.lookup z.1=some z.2) (hcl2:∀x∈bO sc',cl.lookup x=Γ.env.cells.lookup x)
  (hL:s.heap.Ns L fun _=>none) (h0:top C.h₀≤L) (hO:¬nB ρ L) (hLc:∀y∈Γ.env.cells,y.2≠L) {n:Nat} (hn:n=xs.length):cO C (Γ.block sc' cl L xs) ρ σ (lC m n caps) s:=by
 subst hn
 obtain ⟨cn,cg⟩:=hcap.get
 have memc:∀z∈cl,(z.1,z.2)∈Γ.env.cells:=fun z hz=>eV (hcl1 z hz).2
 have kinds:∀x,(Γ.block sc' cl L xs).env.kindOf x=some .local→x∉bO sc':=fun x hx q=>by
  have e:=oF K.nd (i9.mp q)
  obtain ⟨r,hr,q⟩:=iI (env:=Γ.env) (x:=x) (names:=sc'.names)
  have hx':List.lookup x (sc'.names.map _)=some NameKind.local:=hx
  rw [hr] at hx'
  rcases q with q | q
  ·rw [q,e] at hx';cases hx'
  ·rw [q.2] at hx';cases hx'
 have kinds2:∀x∈xs,(Γ.block sc' cl L xs).env.kindOf x=some .local:=fun x hx=>lookup_relabel_local (K.loc x hx)
 refine ⟨J.base,J.len,J.obj,J.dis,J.own0,J.frm,J.frmOwn,J.frmNew,J.frmDict,⟨?_,⟨_,hL,fun i x v hx hg hk=>?_⟩,fun i x hx hk=>?_⟩,h0,hO,fun y hy=>?_,fun y hy=>?_,fun x y a hx hy=>?_,J.gens,J.os⟩
 ·show (lC m xs.length caps).length=(xs++bO sc').length
  simp [lC,cn]
 ·exfalso
  by_cases hi:i < xs.length
  ·rw [lC,kW (by simpa using hi),getV_none] at hg
   cases hg
  ·have hx':(xs++bO sc')[i]? =some x:=hx
   rw [cG (bU hi)] at hx'
   exact kinds x hk (a7 hx')
 ·by_cases hi:i < xs.length
  ·have hx':(xs++bO sc')[i]? =some x:=hx
   rw [bT hi] at hx'
   have:=kinds2 x (a7 hx')
   rw [this] at hk
   rcases hk with q | q <;> cases q
  ·have hx':(xs++bO sc')[i]? =some x:=hx
   rw [cG (bU hi)] at hx'
   have hm:=a7 hx'
   refine hide fun Gx hGx=>?_
   obtain ⟨j,hj,hvj⟩:=cg _ _ hx'
   obtain ⟨c,o,w,hc,ho,hd,r⟩:=J.loc.cell j x (hv▸hvj) (S.cf x (K.free x hm))
   refine hGx ?_
   refine ⟨c,o,w,by rw [show (Γ.block sc' cl L xs).env.cells=cl from rfl,hcl2 x hm,hc],ho,hd,fun v hg=>r v ?_⟩
   rw [lC,nV (by rw [List.length_replicate];exact bU hi),List.length_replicate,getV_caps,hj] at hg
   exact hg
 ·have:=J.cells _ (memc y hy)
  exact ⟨this.1,this.2.1,hLc _ (memc y hy),this.2.2.2⟩
 ·exact J.cellObj _ (memc y hy)
 ·have h1:=(hcl1 _ (eV hx)).2
  have h2:=(hcl1 _ (eV hy)).2
  exact J.cellsND x y a h1 h2
theorem cO.less (J:cO C Γ ρ σ m' s) (hl:m.length=m'.length) (hg:∀i v,cD m i=some v→cD m' i=some v):cO C Γ ρ σ m s:=
 ⟨J.base,J.len,J.obj,J.dis,J.own0,J.frm,J.frmOwn,J.frmNew,J.frmDict,⟨hl.trans J.loc.len,by obtain ⟨nm,n,r⟩:=J.loc.ns;exact ⟨nm,n,fun i x v a b c=>r i x v a (hg i v b) c⟩,fun i x a b=>by
  obtain ⟨c,o,w,h1,h2,h3,r⟩:=J.loc.cell i x a b;exact ⟨c,o,w,h1,h2,h3,fun v q=>r v (hg i v q)⟩⟩,J.newL,J.ownL,J.cells,J.cellObj,J.cellsND,J.gens,J.os⟩
theorem cO.adopt {xs:Array Value} {n:Nat} {vs:List V} (J:cO C Γ ρ σ m s) (e:s.heap.get? D=some {cls:=.type "list",data:=.seq xs n}) (z:xs.size≤lim) (r:gQ s.heap ρ xs.toList vs) (h0:top C.h₀≤D) (hO:¬nB ρ D) (hF:D∉Γ.F) (hX:D∉Γ.X):
  cO C Γ (ρ++[(D,D)]) (σ++[.list vs]) m s:=by
 have g:∀(i:Nat) q,ρ[i]? =some q→(ρ++[(D,D)])[i]? =some q:=fun i q e=>by rw [bT (aX.mp e).1];exact e
 have im:Imm s.heap s.heap:=fun _ _ e _=>e
 have cases_:∀(i:Nat) q,(ρ++[(D,D)])[i]? =some q→ρ[i]? =some q∨(i=ρ.length∧q=(D,D)):=fun i q e=>by
  by_cases h:i < ρ.length
  ·rw [bT h] at e;exact .inl e
  ·have:=(aX.mp e).1
   simp at this
   have hi:i=ρ.length:=kM (bE ‹_›) (bU ‹_›)
   subst hi
   simp at e
   exact .inr ⟨rfl,e.symm⟩
 have ownN:∀{b},nB (ρ++[(D,D)]) b→nB ρ b∨b=D:=fun ⟨q,hq,hb⟩=>by
  rcases dS.mp hq with hq | hq
  ·exact .inl ⟨q,hq,hb⟩
  ·rw [bJ] at hq;subst hq;exact .inr (hb.elim id id)
 refine ⟨J.base,by simp [J.len],fun i q ao' hq ha=>?_,fun i j q q' hi hj ne=>?_,fun q hq=>?_,J.frm,fun b hb q=>(ownN q).elim (J.frmOwn b hb) fun q=>hF (q▸hb),J.frmNew,J.frmDict,J.loc.keep (fun o e=>⟨o.slots,e⟩) (fun _ _ _ e=>e) im g,J.newL,fun q=>(ownN q).elim J.ownL fun q=>hX (q▸.head _),fun y hy=>?_,J.cellObj,J.cellsND,J.gens,J.os⟩
 ·rcases cases_ i q hq with e' | ⟨rfl,rfl⟩
  ·have hlt:=(aX.mp e').1
   rw [bT (by rw [←J.len];exact hlt)] at ha
   exact (J.obj i q ao' e' ha).mono (fun _ e=>e) (fun _ e=>e) im g
  ·rw [J.len] at ha
   simp at ha
   subst ha
   exact ⟨rfl,xs,n,e,z,r.mono im g⟩
 ·rcases cases_ i q hi with e | ⟨rfl,rfl⟩
  ·rcases cases_ j q' hj with e' | ⟨rfl,rfl⟩
   ·exact J.dis i j q q' e e' ne
   ·have h1:q.1≠D:=fun z=>hO ⟨q,a7 e,.inl z.symm⟩
    have h2:q.2≠D:=fun z=>hO ⟨q,a7 e,.inr z.symm⟩
    exact ⟨h1,h1,h2,h2⟩
  ·rcases cases_ j q' hj with e' | ⟨rfl,rfl⟩
   ·have h1:D≠q'.1:=fun z=>hO ⟨q',a7 e',.inl z⟩
    have h2:D≠q'.2:=fun z=>hO ⟨q',a7 e',.inr z⟩
    exact ⟨h1,h2,h1,h2⟩
   ·exact absurd rfl ne
 ·rcases dS.mp hq with hq | hq
  ·exact J.own0 q hq
  ·rw [bJ] at hq;subst hq
   exact ⟨h0,h0,e9 e,e9 e⟩
 ·obtain ⟨a,b,c,d⟩:=J.cells y hy
  exact ⟨a,fun q=>(ownN q).elim b fun q=>hX (.tail _ (dE.mpr ⟨y,hy,q⟩)),c,d⟩
end
end Internal
end
section
namespace Internal
open PySem PySem.W PySem.Calls PyProof.Rows Builtin
theorem Kp.transX {ρ ρ':dI} {F X X':List Addr} {h h₁ h₂:Heap} (k:Kp ρ F X h h₁) (g:fO ρ ρ' h) (y:Kp ρ' F X' h₁ h₂) (hX:∀b∈X',top h≤b):Kp ρ F X h h₂:=by
 have nx':∀b o,h.get? b=some o→b∉X':=fun b o e q=>absurd (e9 e) (bK.mpr (hX b q))
 refine ⟨k.live.trans y.live,fun b o e n nx nf=>y.keep b o (k.keep b o e n nx nf) (fun q=>n (q.grow g (e9 e))) (nx' b o e) nf,fun b o e n nx nf=>?_⟩
 obtain ⟨sl,e₁⟩:=k.slot b o e n nx nf
 obtain ⟨sl',e₂⟩:=y.slot b _ e₁ (fun q=>n (q.grow g (e9 e))) (nx' b o e) nf
 exact ⟨sl',e₂⟩
theorem under_comp {A:Around} {elt:Expr} {gens:List Comprehension} {sc:Scope} {pos:Pos} {it acc:Value} {env:Env}:(A.mark none).under (.compStart (.ListComp elt gens sc pos) 0 it acc env)=A:=by
 have:A.mark none=A:=by cases A with | mk h=>cases h <;> rfl
 rw [this]
 exact iU (by rfl) (by rfl)
theorem under_compL {A:Around} {elt:Expr} {gens:List Comprehension} {sc:Scope} {pos:Pos} {it acc:Value} {env:Env}:(A.mark none).under (.compLoop (.ListComp elt gens sc pos) 0 it acc env)=A:=by
 have:A.mark none=A:=by cases A with | mk h=>cases h <;> rfl
 rw [this]
 exact iU (by rfl) (by rfl)
section
variable {C:Cx} {d:Nat} {sc sc':Scope} {vars:List Str} {Γ Γ':Fx} {ρ ρ' ρ₀:dI} {σ σ':aN} {m m' m₀:Lo} {s s' s₁:Shared} {I D L:Addr} {iv:V} {k:Nat} {cl:List (Str×Addr)} {xs:List Str} {caps:List Nat} {h₀:Heap}
noncomputable def ListAt (h:Heap) (D:Addr) (ys:Array Value):Prop:=∃n,h.get? D=some {cls:=.type "list",data:=.seq ys n}
structure CBase (C:Cx) (Γ Γ':Fx) (D I:Addr) (ρ₀:dI) (h₀:Heap) (iv:V) (ρ:dI) (σ:aN) (m:Lo) (k:Nat) (acc:List V) (ys:Array Value) (s:Shared):Prop where
 grow:fO ρ₀ ρ h₀
 kp:Kp ρ₀ Γ.F [] h₀ s.heap
 inv:cO C Γ' ρ σ m s
 src:Src C s.heap ρ I iv k
 lst:ListAt s.heap D ys
 own:¬nB ρ D
 rel:gQ s.heap ρ ys.toList acc
inductive CInv (C:Cx) (Γ Γ':Fx) (D I:Addr) (ρ₀:dI) (h₀:Heap) (m₀:Lo) (iv:V) (CW:Nat→Nat→List V→aN→Prop) (n:Nat) (s:Shared):Prop
 | mk (ρ:dI) (σ:aN) (k:Nat) (acc:List V) (ys:Array Value) (B:CBase C Γ Γ' D I ρ₀ h₀ iv ρ σ m₀ k acc ys s) (h1:ys.size≤k) (h2:CW n k acc σ)
theorem CBase.step {acc:List V} {ys:Array Value} (B:CBase C Γ Γ' D I ρ₀ h₀ iv ρ σ m k acc ys s) {X:List Addr} (hX:∀b∈X,b∈Γ'.X∧top h₀≤b∧b≠D) (nF:D∉Γ'.F) (g:fO ρ ρ' s.heap) (kp:Kp ρ Γ'.F X s.heap s'.heap) (J:cO C Γ' ρ' σ' m' s') (hF:autoParam (Γ'.F=Γ.F) cO.more._auto_1):
  CBase C Γ Γ' D I ρ₀ h₀ iv ρ' σ' m' k acc ys s':=by
 obtain ⟨n,e⟩:=B.lst
 have kX:=kp.monoX (X':=Γ'.X) fun b q=>(hX b q).1
 exact ⟨B.grow.trans g B.kp.size,B.kp.transX B.grow (hF▸kp) fun b q=>(hX b q).2.1,J,B.src.mono (B.inv.imm2 kX) fun _ _ e=>g.get e,⟨n,kp.keep _ _ e B.own (fun q=>(hX _ q).2.2 rfl) nF⟩,fun q=>B.own (q.grow g (e9 e)),B.rel.mono (B.inv.immX kX) fun _ _ e=>g.get e⟩
theorem CBase.moved {acc:List V} {ys:Array Value} {h':Heap} {tk:Nat} (B:CBase C Γ Γ' D I ρ₀ h₀ iv ρ σ m k acc ys s) (hI:top h₀≤I) (hI0:top C.h₀≤I) (kk:∀b o,b≠I→s.heap.get? b=some o→h'.get? b=some o):
  fO ρ₀ ρ h₀∧Kp ρ₀ Γ.F [] h₀ h'∧cO C Γ' ρ σ m {s with heap:=h',toks:=tk}∧ListAt h' D ys∧gQ h' ρ ys.toList acc:=by
 refine hide fun Gx hGx=>?_
 obtain ⟨o,e,hr,_⟩:=B.src.rec_
 obtain ⟨n,eD⟩:=B.lst
 refine hGx ?_
 refine ⟨B.grow,B.kp.lose hI (fun b o e q=>?_) kk,B.inv.lose hI0 e hr kk,⟨n,kk _ _ (fun q=>?_) eD⟩,B.rel.mono (fun b o' e' c=>kk b o' (fun q=>?_) e') fun _ _ e=>e⟩
 ·rcases q with q | q
  ·exact B.inv.liveOwn (.inl (q.mono B.grow))
  ·cases q
 ·rw [←q,eD] at e;cases e
  obtain ⟨vs,q⟩:=hr;cases q
 ·rw [q,e] at e';cases e'
  obtain ⟨vs,q⟩:=hr
  obtain ⟨_,xs,n,e'⟩:=c
  rw [e'] at q;cases q
theorem setVs_ne {i:Nat} {is:List Nat}:∀{vs:List V} {m:Lo},i∉is→cD (setVs m is vs) i=cD m i:=by
 induction is with
 | nil=>exact fun _=>rfl
 | cons j is ih=>exact fun {vs m} h=>List.casesOn vs rfl fun v vs=>(ih fun q=>h (.tail _ q)).trans (iK fun q=>h (by subst q;exact .head _))
theorem setVs_length {is:List Nat}:∀{vs:List V} {m:Lo},(setVs m is vs).length=m.length:=by
 induction is with
 | nil=>exact rfl
 | cons j is ih=>exact fun {vs m}=>List.casesOn vs rfl fun v vs=>ih.trans iG
theorem bindT_less {n:Nat} {one:Bool} {v:V} (h:bindT (lC m n caps) (List.range n) one v=some m'):(lC m n caps).length=m'.length∧∀i w,cD (lC m n caps) i=some w→cD m' i=some w:=by
 have key:∀i w,cD (lC m n caps) i=some w→i∉List.range n:=fun i w hg q=>by
  rw [List.mem_range] at q
  rw [lC,kW (by simpa using q),getV_none] at hg
  cases hg
 revert h key
 rcases one with _ | _
 ·cases v <;> intro h key <;> first | exact nos h | skip
  rcases ite_ind (P:=(·=some m')) h with ⟨_,h⟩ | ⟨_,h⟩
  ·obtain rfl:=Option.some.inj h
   exact ⟨setVs_length.symm,fun i w hg=>(setVs_ne (key i w hg)).trans hg⟩
  ·exact nos h
 ·rcases List.range n with _ | ⟨i,_ | _⟩ <;> intro h key <;> first | exact nos h | skip
  obtain rfl:=Option.some.inj h
  exact ⟨iG.symm,fun j w hg=>(iK fun q=>key j w hg (by subst q;exact .head _)).trans hg⟩
inductive Ifs (C:Cx) (d:Nat) (sc:Scope) (vars:List Str):List Expr→M→Prop
 | nil:Ifs C d sc vars [] .nil
 | one {c:Expr} {a:M}:ST C d sc vars c a→Ifs C d sc vars [c] (.cons a .nil)
 | bad {l:List Expr} {a:M}:(∀W m σ k X,¬wpA W a m σ k X)→Ifs C d sc vars l a
structure CompIn (C:Cx) (d:Nat) (Γ:Fx) (sc sc':Scope) (xs:List Str) (tg:Expr) (kk:Nat) (ifs:List Expr) (elt:Expr) (mi me:M):Prop where
 ok:nH sc sc' xs
 tg:Tg tg xs kk
 ifs:Ifs C d sc' (xs++bO sc') ifs mi
 elt:SE C d sc' (xs++bO sc') elt me
 wf:Γ.Wf d
theorem tgts_block (K:nH sc sc' xs):∀(l:List Str) (j:Nat),(∀i x,l[i]? =some x→xs[j+i]? =some x)→Tgts (Γ.block sc' cl L xs) [L] (List.range' j l.length) l
 | [],j,_=>.nil
 | x::l,j,h=>by
  have h0:=h 0 x rfl
  rw [Nat.add_zero] at h0
  rw [cK,List.range'_succ]
  refine .cons ?_ (.inl ⟨lookup_relabel_local (K.loc x (a7 h0)),.head _⟩) (tgts_block K l (j+1) fun i y hy=>?_)
  ·show (xs++bO sc')[j]? =some x
   rw [bT (aX.mp h0).1];exact h0
  ·have:=h (i+1) y (by simpa using hy)
   rwa [show j+1+i=j+(i+1) from cZ j 1 i]
theorem block_nodup (K:nH sc sc' xs):(Γ.block sc' cl L xs).vars.Nodup:=by
 show (xs++bO sc').Nodup
 rw [List.nodup_append]
 refine ⟨K.ndX,freeNames_nodup K.nd,fun x hx y hy q=>?_⟩
 subst q
 have e:=oF K.nd (i9.mp hy)
 rw [K.loc x hx] at e;cases e
theorem tg_max {tg:Expr} {xs:List Str} {kk:Nat} (h:Tg tg xs kk) (hne:xs≠[]):max kk 1=xs.length:=by
 rcases h with _ | _
 ·rfl
 ·have:xs.length≠0:=fun q=>hne (nN q)
  exact Nat.max_eq_left (Nat.pos_of_ne_zero ‹_›)
theorem PXh.no {e:Value} {P:Prop} (h:PXh C Γ ρ m h₀ noX e s):P:=by
 obtain ⟨_,_,_,_,_,_,_,q⟩:=h
 exact q.elim
theorem CompIn.tgts {tg:Expr} {kk:Nat} {ifs:List Expr} {elt:Expr} {mi me:M} (N:CompIn C d Γ sc sc' xs tg kk ifs elt mi me) (cl:List (Str×Addr)) (L:Addr):Tgts (Γ.block sc' cl L xs) [L] (List.range (max kk 1)) xs:=by
 have:=tgts_block (Γ:=Γ) (cl:=cl) (L:=L) N.ok xs 0 fun i x h=>by rwa [fL]
 rwa [←List.range_eq_range',←tg_max N.tg N.ok.ne] at this
noncomputable def compRun (d:Nat) (mi me:M) (m':Lo) (σ:aN) (K:Option V→aN→Prop):Prop:=wpA (wpCall d) mi m' σ (ifQ (wpE (wpCall d) me m' · (fun w σ=>K (some w) σ) noX) (K .none)) noX
structure LpIn (C:Cx) (Γ:Fx) (cl:List (Str×Addr)) (h₀:Heap) (I D L:Addr):Prop where
 tI:top h₀≤I
 tI0:top C.h₀≤I
 tD:top h₀≤D
 tL:top h₀≤L
 tD0:top C.h₀≤D
 DL:D≠L
 DF:D∉Γ.F
 DX:∀y∈cl,y.2≠D
theorem LpIn.notX (G:LpIn C Γ cl h₀ I D L):D∉(Γ.block sc' cl L xs).X:=fun q=>by
 rcases bN.mp q with q | q
 ·exact G.DL q
 ·obtain ⟨y,hy,q⟩:=dE.mp q
  exact G.DX y hy q
noncomputable def lpCode (elt tg it:Expr) (ifs:List Expr) (sc':Scope) (pos:Pos) (I D:Addr) (env:Env):Code:=.compLoop (.ListComp elt [⟨tg,it,ifs,0⟩] sc' pos) 0 (.ref I) (.ref D) env
noncomputable def tailP (elt:Expr) (D:Addr) (env:Env) (c:Code) (ok:Bool):Sem Fin:=
 if ok=true then (do (do let _←call (.builtin "list.append") [.ref D,←eval elt env]:Sem Unit);again c) else again c
noncomputable def testsP (env:Env) (k:Bool→Sem Fin) (ifs:List Expr):Sem Fin:=do
 let mut ok:=true
 for c in ifs do
  if ok then ok←isTrue c env (eval c env)
 k ok
noncomputable def turnP (tg:Expr) (I:Addr) (env:Env) (rest:Sem Fin) (v:Value):Sem Fin:=do
 letOwnedTupleGo tg (.ref I) v
 assign tg env v
 rest
noncomputable def nextP (t:Value→Sem Fin):Option Value→Sem Fin
 | none=>pure (.done .next)
 | some v=>t v
theorem compTurn_eq (elt tg it:Expr) (ifs:List Expr) (sc':Scope) (pos:Pos) (I D:Addr) (env:Env):
  compTurn (.ListComp elt [⟨tg,it,ifs,0⟩] sc' pos) 0 (.ref I) (.ref D) env=standAt it.pos >>=fun _=>pyNext (.ref I) >>=nextP (turnP tg I env (testsP env (tailP elt D env (lpCode elt tg it ifs sc' pos I D env)) ifs)):=by rfl
noncomputable def noE:Value→Shared→Prop:=fun _ _=>False
theorem tests_nil {M:Model} {A:Around} {env:Env} {k:Bool→Sem Fin} {Q:Fin→Shared→Prop} {E:Value→Shared→Prop} (h:wpG M A (k true) Q E s):wpG M A (testsP env k []) Q E s:=aM (aY h)
theorem tests_one {M:Model} {A:Around} {env:Env} {k:Bool→Sem Fin} {c:Expr} {Q:Fin→Shared→Prop} {E:Value→Shared→Prop} (h:wpG M A (isTrue c env (eval c env)) (fun ok s'=>wpG M A (k ok) Q E s') E s):wpG M A (testsP env k [c]) Q E s:=by
 unfold testsP
 dsimp only [List.forIn_cons,List.forIn_nil,if_true]
 exact aM (aM (aM (aO h (fun _ _ h=>aY (aY h)) fun _ _ h=>h)))
noncomputable abbrev CIv (C:Cx) (d:Nat) (Γ:Fx) (sc':Scope) (xs:List Str) (kk:Nat) (mi me:M) (cl:List (Str×Addr)) (h₀:Heap) (I D L:Addr) (m:Lo) (caps:List Nat) (ρ₀:dI) (iv:V) (fin:List V→aN→Prop) (n:Nat) (s:Shared):Prop:=
 CInv C Γ (Γ.block sc' cl L xs) D I ρ₀ h₀ (blkLo m kk caps) iv (compN iv (blkLo m kk caps) kk (compRun d mi me) fin) n s
section
variable {tg it elt:Expr} {ifs:List Expr} {kk n:Nat} {mi me:M} {pos:Pos} {R:Result→Shared→Prop} {fin:List V→aN→Prop} {acc acc':List V} {ys:Array Value} {v:V} {r:Option V} {K:Option V→aN→Prop} {A:Around}
theorem comp_end (B:CBase C Γ (Γ.block sc' cl L xs) D I ρ₀ h₀ iv ρ σ m' (k+1) acc' ys s) (hz:ys.size≤k+1) (e:acc'=adC acc r) (hb:bindT (blkLo m kk caps) (List.range (max kk 1)) (kk==0) v=some m')
  (w:compN iv (blkLo m kk caps) kk (compRun d mi me) fin n (k+1) (adC acc r) σ):LoopQ C.M A (lpCode elt tg it ifs sc' pos I D (Γ.block sc' cl L xs).env) R (CIv C d Γ sc' xs kk mi me cl h₀ I D L m caps ρ₀ iv fin) (n+1) (.again (lpCode elt tg it ifs sc' pos I D (Γ.block sc' cl L xs).env)) s:=
 have hl:=bindT_less (n:=max kk 1) hb
 .turn (jX n) ⟨ρ,σ,k+1,acc',ys,⟨B.grow,B.kp,B.inv.less hl.1 hl.2,B.src,B.lst,B.own,B.rel⟩,hz,e▸w⟩
theorem comp_tail {c:Code} {Q:Fin→Shared→Prop} (N:CompIn C d Γ sc sc' xs tg kk ifs elt mi me) (G:LpIn C Γ cl h₀ I D L) (hkl:k < lim) {ok:Bool} (B:CBase C Γ (Γ.block sc' cl L xs) D I ρ₀ h₀ iv ρ σ m' (k+1) acc ys s) (hsz:ys.size≤k) {K:Option V→aN→Prop}
  (fin:∀ρ σ acc' ys r s,CBase C Γ (Γ.block sc' cl L xs) D I ρ₀ h₀ iv ρ σ m' (k+1) acc' ys s→ys.size≤k+1→acc'=adC acc r→K r σ→Q (.again c) s)
  (q:ifQ (wpE (wpCall d) me m' · (fun w σ=>K (some w) σ) noX) (K none) ok σ):wpG C.M Γ.A (tailP elt D (Γ.block sc' cl L xs).env c ok) Q noE s:=by
 induction ok with
 | false=>exact aY (fin _ _ _ _ _ _ B (i6 hsz) rfl q)
 | true=>
  refine aM (aM (aO (N.elt _ ρ σ m' s _ _ (N.wf.block N.ok) (kG.block Γ sc' cl L xs) rfl B.inv q) (fun x s4 h4=>?_) fun _ _ h=>h.no))
  obtain ⟨ρ4,σ4,v4,g4,k4,I4,r4,q4⟩:=h4
  have B4:=B.step (X:=[]) (fun _ q=>nomatch q) G.DF g4 k4 I4
  obtain ⟨nD,eD⟩:=B4.lst
  refine aM (bV (wpAny_list_append_plain ⟨nD,eD⟩ (fun h5 ⟨n5,e5⟩ hs5=>?_) (aA hsz (aA (b6 hkl) j1))))
  have k5:∀b o,b≠D→s4.heap.get? b=some o→h5.get? b=some o:=fun b o n e=>(hs5.2 b n).trans e
  have nS:∀o,s4.heap.get? D=some o→¬(Still o∨Rec o):=fun o e c=>by
   rw [eD] at e;cases e
   rcases c with ⟨c,_⟩ | ⟨vs,c⟩
   ·exact absurd (Value.type.inj c) (by decide)
   ·cases c
  have im5:Imm2 s4.heap h5:=fun b o e c=>k5 b o (fun q=>nS o (q▸e) c) e
  exact aY (aY (fin _ _ _ _ (some v4) {s4 with heap:=h5}
   ⟨B4.grow,B4.kp.lose G.tD (fun b o e q=>q.elim (fun q=>I4.liveOwn (.inl (q.mono B4.grow))) fun q=>nomatch q) k5,I4.loseAt G.tD0 B4.own G.DF G.notX (fun o e c=>nS o e (.inl c)) k5,B4.src.mono im5 fun _ _ e=>e,⟨n5,e5⟩,B4.own,
    by rw [Array.toList_push];exact (B4.rel.mono im5.imm fun _ _ e=>e).append (.cons (r4.mono im5.imm fun _ _ e=>e) .nil)⟩ (by rw [Array.size_push];exact bX hsz) rfl q4))
theorem comp_turn {c:Code} {Q:Fin→Shared→Prop} {u:Value} (N:CompIn C d Γ sc sc' xs tg kk ifs elt mi me) (G:LpIn C Γ cl h₀ I D L) (hkl:k < lim) (B:CBase C Γ (Γ.block sc' cl L xs) D I ρ₀ h₀ iv ρ σ m (k+1) acc ys s) (ru:VR s.heap ρ u v) (hsz:ys.size≤k) {K:Option V→aN→Prop}
  (hb:bindT m (List.range (max kk 1)) (kk==0) v=some m')
  (fin:∀ρ σ acc' ys r s,CBase C Γ (Γ.block sc' cl L xs) D I ρ₀ h₀ iv ρ σ m' (k+1) acc' ys s→ys.size≤k+1→acc'=adC acc r→K r σ→Q (.again c) s)
  (q:compRun d mi me m' σ K):wpG C.M Γ.A (turnP tg I (Γ.block sc' cl L xs).env (testsP (Γ.block sc' cl L xs).env (tailP elt D (Γ.block sc' cl L xs).env c) ifs) u) Q noE s:=by
 have hXL:∀b∈[L],b∈(Γ.block sc' cl L xs).X:=fun b q=>by rw [bJ] at q;subst q;exact .head _
 refine goes_not B.src (dC (bQ (bind_sound (X:=[L]) N.wf.handled B.inv N.ok.kind (block_nodup N.ok) hXL N.tg (N.tgts cl L) ru hb) (fun _ s2 h2=>?_) fun _ _ e=>e))
 have B2:=B.step (fun b q=>by
  have:=hXL b q
  rw [bJ] at q;subst q
  exact ⟨this,G.tL,Ne.symm G.DL⟩) G.DF (.refl _ _) h2.1 h2.2
 revert q
 induction N.ifs with
 | nil=>exact fun q=>tests_nil (comp_tail (ok:=true) N G hkl B2 hsz fin q)
 | bad hn=>exact fun q=>(hn _ _ _ _ _ q).elim
 | one hc=>
  refine fun q=>tests_one (aO (hc _ ρ σ m' s2 _ _ (N.wf.block N.ok) (kG.block Γ sc' cl L xs) rfl h2.2 q) (fun ok s3 h3=>?_) fun _ _ h=>h.no)
  obtain ⟨ρ3,σ3,g3,k3,I3,q3⟩:=h3
  exact comp_tail N G hkl (B2.step (X:=[]) (fun _ q=>nomatch q) G.DF g3 k3 I3) hsz fin q3
theorem comp_loop (N:CompIn C d Γ sc sc' xs tg kk ifs elt mi me) (G:LpIn C Γ cl h₀ I D L)
  (Rfin:∀ρ σ acc ys s,fO ρ₀ ρ h₀→Kp ρ₀ Γ.F [] h₀ s.heap→cO C (Γ.block sc' cl L xs) ρ σ (blkLo m kk caps) s→ListAt s.heap D ys→¬nB ρ D→gQ s.heap ρ ys.toList acc→fin acc σ→R (.ok .next) s)
  (h:CIv C d Γ sc' xs kk mi me cl h₀ I D L m caps ρ₀ iv fin n s):
  codeG C.M (Γ.A.mark none) (lpCode elt tg it ifs sc' pos I D (Γ.block sc' cl L xs).env) R s:=by
 refine codeG_loop' rfl rfl _ (fun n s h=>?_) n h
 show wpG _ ((Γ.A.mark none).under (.compLoop (.ListComp elt [⟨tg,it,ifs,0⟩] sc' pos) 0 (.ref I) (.ref D) (Γ.block sc' cl L xs).env)) ((compTurn (.ListComp elt [⟨tg,it,ifs,0⟩] sc' pos) 0 (.ref I) (.ref D) (Γ.block sc' cl L xs).env).onRaise (fun x=>do noteFrame x (Γ.block sc' cl L xs).env;theTreesLotGoes x)) _ _ s
 rw [under_compL]
 refine iC (aO (E:=noE) ?_ (fun _ _ h=>h) fun _ _ h=>h.elim)
 rw [compTurn_eq]
 obtain ⟨ρ,σ,k,acc,ys,B,hsz,w⟩:=h
 induction n with
 | zero=>exact w.elim
 | succ n=>
 obtain ⟨vs,hv,w0,w1⟩:=w
 refine bM (dC (next_sound N.wf.handled B.inv B.src hv (fun v u h' tk hx ru S1 kq=>?_) fun h' tk hx kq=>?_))
 ·refine hide fun Gx hGx=>?_
  obtain ⟨b1,b2,b3,b4,b5⟩:=B.moved (tk:=tk) G.tI G.tI0 kq
  obtain ⟨m',hb,wa⟩:=w1 v hx
  refine hGx ?_
  exact comp_turn N G (aJ (aX.mp hx).1 (src_lim B.inv B.src hv)) ⟨b1,b2,b3,S1,b4,B.own,b5⟩ ru hsz hb (fun _ _ _ _ _ _ B hz e w=>comp_end B hz e hb w) wa
 ·obtain ⟨b1,b2,b3,b4,b5⟩:=B.moved (tk:=tk) G.tI G.tI0 kq
  exact aY (.done (Rfin ρ σ acc ys _ b1 b2 b3 b4 B.own b5 (w0 hx)))
end
end
end Internal
end
section
namespace Internal
open PySem PySem.W PySem.Calls PyProof.Rows Builtin
inductive PIh (C:Cx) (Γ:Fx) (ρ:dI) (m:Lo) (h₀:Heap) (Q:V→aN→Prop) (v:Value) (s':Shared):Prop
 | mk (ρ':dI) (σ':aN) (v':V) (g:fO ρ ρ' h₀) (k:Kp ρ Γ.F [] h₀ s'.heap) (J:cO C Γ ρ' σ' m s') (r:IR s'.heap ρ' v v') (q:Q v' σ')
noncomputable abbrev PI (C:Cx) (Γ:Fx) (ρ:dI) (m:Lo) (s:Shared) (Q:V→aN→Prop):Value→Shared→Prop:=PIh C Γ ρ m s.heap Q
noncomputable def SI (C:Cx) (d:Nat) (sc:Scope) (vars:List Str) (e:Expr) (me:M):Prop:=
 ∀(Γ:Fx) (ρ:dI) (σ:aN) (m:Lo) (s:Shared) (Q:V→aN→Prop) (X:Ex→aN→Prop),Γ.Wf d→kG sc Γ.env→Γ.vars=vars→cO C Γ ρ σ m s→wpI (wpCall d) me m σ (fun K=>wpE (wpCall d) me m σ K X) Q X→
  wpG C.M Γ.A (eval e Γ.env) (PI C Γ ρ m s Q) (PX C Γ ρ m s X) s
section
variable {M:Model} {A:Around} {E:Value→Shared→Prop} {s:Shared} {env:Env}
theorem wpG_standIf {α:Type} {c:Prop} [Decidable c] {pos:Pos} {k:PUnit→Sem α} {Q:α→Shared→Prop} (h:wpG M A (k ()) Q E s):wpG M A (if c then (standAt pos >>=k) else k ()) Q E s:=by
 split
 ·exact aM (bV (fP h))
 ·exact h
theorem wpG_comprehension {e:Expr} {scope:Scope} {pos:Pos} {newAcc first:Sem Value} {g:Comprehension} {gs:List Comprehension} {cl:List (Str×Addr)} {use:Option (Value→Sem Unit)} {Q:Value→Shared→Prop}
  (hcl:clausesOf e=g::gs) (hs:∀x,foldedSetIterable g.iter env x=pure x) (hclos:closureFor scope env=pure cl)
  (hkind:scope.kind=.function) (hnames:∀x∈scope.names,x.2=.local→scope.names.lookup x.1=some .local)
  (h:wpG M A first (fun x s₁=>wpAny M A (pyIter x) (fun it s₂=>wpAny M A newAcc (fun acc s₃=>
   wpAny M A (newFunctionEnv scope env.globals cl [] env.qual none .none (some env)) (fun cenv s₄=>
    codeG M (A.mark none) (.compStart e 0 it acc {cenv with scope:=relabel scope env}) (fun r s'=>r=.ok .next∧compPost M A E use Q acc cenv.locals (.ok .next) s') s₄) E s₃) E s₂) E s₁) E s):
  wpG M A (comprehension e scope env pos newAcc false first use) Q E s:=by
 unfold comprehension
 rw [hclos,hcl]
 refine aM (aO h (fun x s₁ h₁=>bM (aM (iW (hs x) (aM (bL (bV (bQ h₁ (fun it s₂ h₂=>
  wpG_standIf (dC (bQ h₂ (fun acc s₃ h₃=>aM (aY (dC (bQ h₃ (fun cenv s₄ h₄=>?_) fun _ _ h'=>h')))) fun _ _ h'=>h'))) fun _ _ h'=>h'))))))) fun _ _ h'=>h')
 dsimp only
 have hv:∀x∈(scope.names.filter fun x=>(x.2==.local || x.2==.cell) && x.1 !=(".0" :Str)).reverse,x.2=.local→
   Env.kindOf {cenv with scope:=relabel scope env} x.1=some .local:=fun x hx hl=>lookup_relabel_local (hnames x (List.mem_filter.mp (List.mem_reverse.mp hx)).1 hl)
 have hv':∀x∈(scope.names.filter fun x=>(x.2==.local || x.2==.cell) && x.1 !=(".0" :Str)).reverse.drop 1++(scope.names.filter fun x=>(x.2==.local || x.2==.cell) && x.1 !=(".0" :Str)).reverse.take 1,
   x.2=.local→Env.kindOf {cenv with scope:=relabel scope env} x.1=some .local:=fun x hx hl=>by
  rcases dS.mp hx with h1 | h1
  ·exact hv x (List.mem_of_mem_drop h1) hl
  ·exact hv x (List.mem_of_mem_take h1) hl
 refine bL (aM (wpG_attempt (bL (wpG_run (kY h₄ fun r s' hr=>?_)))))
 obtain ⟨rfl,hr⟩:=hr
 induction use with
 | none=>
  obtain ⟨m,hn,hr⟩:=hr
  exact aM (bL (bV (wpAny_comp_letGo (cenv:={cenv with scope:=relabel scope env}) hkind _ s' m hv hn fun h' m' _ hs'=>aY (hr h' hs'))))
 | some u=>
  refine dC (kP (aM (bL (bV (bQ hr (fun _ s'' hr'=>?_) fun _ _ h'=>h')))))
  obtain ⟨m,hn,hr'⟩:=hr'
  exact aM (bV (wpAny_comp_letGo (cenv:={cenv with scope:=relabel scope env}) hkind _ s'' m hv' hn fun h' m' _ hs'=>aY (hr' h' hs')))
end
section
variable {C:Cx} {d:Nat} {sc sc':Scope} {vars:List Str} {Γ Γ':Fx} {ρ ρ' ρ₀:dI} {σ σ':aN} {m m' m₀:Lo} {s s' s₁:Shared} {I D L:Addr} {iv:V} {k:Nat} {cl:List (Str×Addr)} {xs:List Str} {caps:List Nat} {h₀:Heap}
theorem codeG_compStart {elt tg it:Expr} {ifs:List Expr} {pos:Pos} {acc:Value} {env:Env} {R:Result→Shared→Prop} (hh:Γ.A.handled=none) (S:Src C s.heap ρ I iv k) (h0:codeG C.M (Γ.A.mark none) (.compLoop (.ListComp elt [⟨tg,it,ifs,0⟩] sc' pos) 0 (.ref I) acc env) R s):
  codeG C.M (Γ.A.mark none) (.compStart (.ListComp elt [⟨tg,it,ifs,0⟩] sc' pos) 0 (.ref I) acc env) R s:=by
 refine dZ rfl (bV ?_)
 rw [under_comp]
 refine wpAny_notedAt ?_
 unfold compStart
 refine aC (wpAny_askSetting (wpAny_ite ?_))
 split
 ·first
   | exact aC (aI (aI (And.intro rfl h0)))
   | exact aI (And.intro rfl h0)
 ·first
   | exact aC (kP (aC (fP (aC (self_sound (M:=C.M) hh S (aI (And.intro rfl h0)))))))
   | (refine aC (kP ?_);show wpAny _ _ (standAt it.pos >>=_) _ _ s;exact aC (fP (aC (self_sound (M:=C.M) hh S (aI (And.intro rfl h0))))))
theorem fO.snoc {ρ ρ':dI} {h:Heap} {D:Addr} (g:fO ρ ρ' h) (hD:top h≤D):fO ρ (ρ'++[(D,D)]) h:=by
 obtain ⟨r,rfl,a⟩:=g
 refine ⟨r++[(D,D)],by simp,fun p hp=>?_⟩
 rcases dS.mp hp with hp | hp
 ·exact a p hp
 ·rw [bJ] at hp;subst hp;exact ⟨hD,hD⟩
structure EndL (C:Cx) (Γ:Fx) (ρ:dI) (h₀:Heap) (L:Addr) (s:Shared):Prop where
 ns:∃nm,s.heap.Ns L nm
 fresh:top h₀≤L
 own:¬nB ρ L
 F:L∉Γ.F
 X:L∉Γ.X
theorem EndL.gone {h':Heap} {tk:Nat} {h₀:Heap} {ρ₀:dI} (e:EndL C Γ ρ h₀ L s) (J:cO C Γ ρ σ m s) (z:top C.h₀≤top h₀) (hs:Heap.SameBut L s.heap h'):cO C Γ ρ σ m {s with heap:=h',toks:=tk}∧Imm s.heap h'∧
  ∀{ρ₀ X},(∀b∈X,b∈Γ.X)→fO ρ₀ ρ h₀→Kp ρ₀ Γ.F X h₀ s.heap→Kp ρ₀ Γ.F X h₀ h':=by
 have k:∀b o,b≠L→s.heap.get? b=some o→h'.get? b=some o:=fun b o n e=>(hs.2 b n).trans e
 have nS:∀o,s.heap.get? L=some o→¬Still o:=fun o q c=>by
  obtain ⟨nm,o',es,ep,e',dd,_⟩:=e.ns
  rw [q] at e';cases e'
  obtain ⟨_,xs,n,c⟩:=c
  rw [c] at dd;cases dd
 refine ⟨J.loseAt (aA z e.fresh) e.own e.F e.X nS k,fun b o q c=>k b o (fun z=>nS o (z▸q) c) q,fun hX g kp=>kp.lose e.fresh (fun b o _ q=>J.liveOwn (q.imp (fun q=>q.mono g) (hX b))) k⟩
theorem comp_core {elt tg it:Expr} {ifs:List Expr} {kk:Nat} {mi me mit:M} {pos p0:Pos} {use:Option (Value→Sem Unit)} {Q:V→aN→Prop} {X:Ex→aN→Prop} {Q':Value→Shared→Prop} (N:CompIn C d Γ sc sc' xs tg kk ifs elt mi me) (S:kG sc Γ.env) (hv:Γ.vars=vars)
  (hcap:kB sc vars (bO sc') caps) (hit:HE it) (hI:∀Q X,wpI (wpCall d) mit m σ (fun K=>wpE (wpCall d) mit m σ K X) Q X→wpG C.M Γ.A (eval it Γ.env) (PI C Γ ρ m s Q) (PX C Γ ρ m s X) s) (J:cO C Γ ρ σ m s) (q:wpE (wpCall d) (.comp me kk mit mi caps) m σ Q X)
  (hend:∀ρ' σ' v v' L s',fO ρ ρ' s.heap→Kp ρ Γ.F [] s.heap s'.heap→cO C Γ ρ' σ' m s'→VR s'.heap ρ' v v'→Q v' σ'→EndL C Γ ρ' s.heap L s'→compPost C.M Γ.A (PX C Γ ρ m s X) use Q' v L (.ok .next) s'):
  wpG C.M Γ.A (comprehension (.ListComp elt [⟨tg,it,ifs,0⟩] sc' pos) sc' Γ.env p0 (newList []) false (eval it Γ.env) use) Q' (PX C Γ ρ m s X) s:=by
 have K:=N.ok
 have hfk:∀x∈bO sc',∃a,Γ.env.cells.lookup x=some a:=fun x hx=>by
  obtain ⟨j,hj⟩:=List.getElem?_of_mem hx
  obtain ⟨i,_,hi⟩:=hcap.get.2 j x hj
  obtain ⟨c,_,_,hc,_⟩:=J.loc.cell i x (hv▸hi) (S.cf x (K.free x hx))
  exact ⟨c,hc⟩
 obtain ⟨cl,hclos,hcl1,hcl2⟩:=closure_of hfk
 have memc:∀z∈cl,(z.1,z.2)∈Γ.env.cells:=fun z hz=>eV (hcl1 z hz).2
 refine wpG_comprehension rfl (hit.fold _) hclos K.kind (fun x hx hl=>oF K.nd (by obtain ⟨a,b⟩:=x;cases hl;exact hx)) ?_
 refine aO (hI _ X q) (fun x s1 h1=>?_) fun _ _ h=>h
 obtain ⟨ρ1,σ1,iv,g1,k1,J1,r1,nn,q1⟩:=h1
 induction nn with
 | zero=>exact q1.elim
 | succ nn=>
 have z0:top C.h₀≤top s.heap:=J.size0
 have hvs:∃vs,jD iv σ1=some vs:=q1.rec fun vs h _ _=>⟨vs,h⟩
 obtain ⟨vs,hvs⟩:=hvs
 refine iter_sound (M:=C.M) J1 r1 hvs fun oI hoI SI1=>?_
 refine eF (wpAny_newFunctionEnv K.cell (by intro y hy;simp at hy) (fun h₁ hns₁ hsb₁=>?_) K.kind)
 dsimp only at hns₁ hsb₁ ⊢
 generalize hH2:(s1.heap.push oI).push {cls:=.type "list",dict:=none,data:=.seq ([]:List Value).toArray}=H2 at hns₁ hsb₁ ⊢
 have hD:(s1.heap.push oI).objs.size=s1.heap.objs.size+1:=Heap.size_push ..
 have hC:H2.objs.size=s1.heap.objs.size+2:=by rw [←hH2,Heap.size_push,hD]
 have below:∀b,b < s1.heap.objs.size→b≠H2.objs.size:=fun b hb=>by rw [hC];exact cJ (aJ hb (aU _ _))
 have old2:∀b o,(s1.heap.push oI).get? b=some o→h₁.get? b=some o:=fun b o e=>hsb₁.extBut b o (by
  have:=Heap.lt_size e
  rw [hD] at this
  rw [hC];exact cJ (Nat.lt_succ_of_lt this)) (Heap.get?_push_of_some _ (hH2▸Heap.get?_push_of_some _ e))
 have old:∀b o,s1.heap.get? b=some o→h₁.get? b=some o:=fun b o e=>old2 b o (Heap.get?_push_of_some _ e)
 have hacc:h₁.get? (s1.heap.objs.size+1)=some {cls:=.type "list",data:=.seq #[] 0}:=hsb₁.extBut _ _ (by rw [hC];exact cJ (jX _)) (Heap.get?_push_of_some _ (hH2▸hD▸Heap.get?_push_size _ rfl))
 generalize hL:H2.objs.size=L at*
 have hsz:top s.heap≤s1.heap.objs.size:=aA k1.size (eB _)
 have tI:top s.heap≤s1.heap.objs.size:=hsz
 have tD:top s.heap≤s1.heap.objs.size+1:=i6 hsz
 have tL:top s.heap≤L:=by rw [hC];exact aA hsz (aU _ _)
 have J2:cO C Γ ρ1 σ1 m {s1 with heap:=h₁,toks:=s1.toks+([]:List (Str×Value)).length}:=J1.more old
 have kp2:Kp ρ Γ.F [] s.heap h₁:=k1.trans g1 (.of_keeps old)
 have notOwn:∀a,s1.heap.objs.size≤a→¬nB ρ1 a:=fun a ha q=>absurd (aJ (J1.ltO q) (eB _)) (bK.mpr ha)
 have notF:∀a,s1.heap.objs.size≤a→a∉Γ.F:=fun a ha q=>by
  obtain ⟨o,_,_,e,_⟩:=J1.frmDict a q
  exact absurd (Heap.lt_size e) (bK.mpr ha)
 have notX:∀a,s1.heap.objs.size≤a→a∉Γ.X:=fun a ha q=>by
  obtain ⟨o,e⟩:=J1.liveOwn (.inr q)
  exact absurd (Heap.lt_size e) (bK.mpr ha)
 have notC:∀a,s1.heap.objs.size≤a→∀y∈Γ.env.cells,y.2≠a:=fun a ha y hy q=>notX a ha (.tail _ (dE.mpr ⟨y,hy,q⟩))
 have lL:s1.heap.objs.size≤L:=by rw [hC];exact aU _ _
 have JB:cO C (Γ.block sc' cl L xs) ρ1 σ1 (blkLo m kk caps) {s1 with heap:=h₁,toks:=s1.toks+([]:List (Str×Value)).length}:=
  J2.block K S hv hcap hcl1 hcl2 (by simpa using hns₁) (aA z0 tL) (notOwn L lL) (notC L lL) (tg_max N.tg K.ne)
 have SI2:Src C h₁ ρ1 s1.heap.objs.size iv 0:=SI1.mono (fun b o e _=>old2 b o e) fun _ _ e=>e
 have hDL:s1.heap.objs.size+1≠L:=by rw [hC];exact cJ (jX _)
 have loop:codeG C.M (Γ.A.mark none) (.compLoop (.ListComp elt [⟨tg,it,ifs,0⟩] sc' pos) 0 (.ref s1.heap.objs.size) (.ref (s1.heap.objs.size+1)) (Γ.block sc' cl L xs).env)
   (fun r s'=>r=.ok .next∧compPost C.M Γ.A (PX C Γ ρ m s X) use Q' (.ref (s1.heap.objs.size+1)) L (.ok .next) s') {s1 with heap:=h₁,toks:=s1.toks+([]:List (Str×Value)).length}:=by
  refine comp_loop (m:=m) (caps:=caps) (ρ₀:=ρ) (h₀:=s.heap) (iv:=iv) (n:=nn+1) (fin:=finC Q) N ⟨tI,aA z0 tI,tD,tL,aA z0 tD,hDL,notF _ (eJ _),fun y hy=>notC _ (eJ _) _ (memc y hy)⟩ (fun ρ2 σ2 acc ys s2 g2 k2 JE eD nO rD f=>⟨rfl,?_⟩) ⟨ρ1,σ1,0,[],#[],⟨g1,kp2,JB,SI2,⟨0,hacc⟩,notOwn _ (eJ _),.nil⟩,cV _,q1⟩
  obtain ⟨nD,eD⟩:=eD
  have JO:cO C Γ ρ2 σ2 m s2:=J.back JE g2 k2
  have JA:=JO.adopt eD (by rw [rD.size];exact f.1) rD (aA z0 tD) nO (notF _ (eJ _)) (notX _ (eJ _))
  refine hend _ _ _ (.obj σ2.length) L s2 (g2.snoc tD) k2 JA (.obj (d:=s1.heap.objs.size+1) ?_) f.2 ⟨?_,tL,fun q=>?_,notF _ lL,notX _ lL⟩
  ·rw [←JO.len];simp
  ·obtain ⟨nm,n,_⟩:=JE.loc.ns;exact ⟨nm,n⟩
  ·obtain ⟨p,hp,hb⟩:=q
   rcases dS.mp hp with hp | hp
   ·exact JE.ownL ⟨p,hp,hb⟩
   ·rw [bJ] at hp;subst hp
    exact hb.elim (fun q=>hDL q.symm) fun q=>hDL q.symm
 have:=codeG_compStart (C:=C) (Γ:=Γ) (ρ:=ρ1) (iv:=iv) (k:=0) N.wf.handled SI2 loop
 rw [hD]
 exact this
theorem comp_local {elt tg it:Expr} {ifs:List Expr} {kk:Nat} {mi me mit:M} {pos:Pos} (K:nH sc sc' xs) (htg:Tg tg xs kk) (hif:Ifs C d sc' (xs++bO sc') ifs mi) (he:SE C d sc' (xs++bO sc') elt me)
  (hcap:kB sc vars (bO sc') caps) (hit:HE it) {Γ:Fx} {ρ:dI} {σ:aN} {m:Lo} {s:Shared} {Q:V→aN→Prop} {X:Ex→aN→Prop} (W:Γ.Wf d) (S:kG sc Γ.env) (hv:Γ.vars=vars) (J:cO C Γ ρ σ m s)
  (hI:∀Q X,wpI (wpCall d) mit m σ (fun K=>wpE (wpCall d) mit m σ K X) Q X→wpG C.M Γ.A (eval it Γ.env) (PI C Γ ρ m s Q) (PX C Γ ρ m s X) s) (q:wpE (wpCall d) (.comp me kk mit mi caps) m σ Q X):
  wpG C.M Γ.A (eval (.ListComp elt [⟨tg,it,ifs,0⟩] sc' pos) Γ.env) (PQ C Γ ρ m s Q) (PX C Γ ρ m s X) s:=by
 rw [eval_ListComp]
 refine comp_core ⟨K,htg,hif,he,W⟩ S hv hcap hit hI J q fun ρ' σ' v v' L s' g k J' r hq e=>?_
 obtain ⟨nm,n⟩:=e.ns
 refine ⟨nm,n,fun h' hs=>?_⟩
 obtain ⟨a,b,c⟩:=e.gone (tk:=s'.toks) (ρ₀:=ρ) J' J.size0 hs
 exact ⟨ρ',σ',v',g,c (fun _ q=>nomatch q) g k,a,r.mono b fun _ _ e=>e,hq⟩
theorem SE_comp {elt tg it:Expr} {ifs:List Expr} {kk:Nat} {mi me mit:M} {pos:Pos} (K:nH sc sc' xs) (htg:Tg tg xs kk) (hif:Ifs C d sc' (xs++bO sc') ifs mi) (he:SE C d sc' (xs++bO sc') elt me)
  (hcap:kB sc vars (bO sc') caps) (hit:HE it) (hI:SI C d sc vars it mit):SE C d sc vars (.ListComp elt [⟨tg,it,ifs,0⟩] sc' pos) (.comp me kk mit mi caps):=fun Γ ρ σ m s Q X W S hv J q=>comp_local K htg hif he hcap hit W S hv J (fun Q X q=>hI Γ ρ σ m s Q X W S hv J q) q
end
end Internal
end
section
namespace Internal
open PySem PySem.W PySem.Calls PyProof.Rows Builtin
noncomputable def SS (C:Cx) (d:Nat) (sc:Scope) (vars:List Str) (st:Stmt) (ms:M):Prop:=
 ∀(Γ:Fx) (r:List Env) (ρ:dI) (σ:aN) (m:Lo) (s:Shared) (Q:Fl→Lo→aN→Prop) (X:Ex→Lo→aN→Prop),Γ.Wf d→Γ.fr=Γ.env::r→kG sc Γ.env→Γ.vars=vars→(∀x,Γ.env.kindOf x≠some .free)→Γ.vars.Nodup→cO C Γ ρ σ m s→wpS (wpCall d) ms m σ Q X→
  wpG C.M Γ.A (exec st Γ.env) (PS C Γ ρ s Q) (PXS C Γ ρ s X) s
section
variable {M:Model} {A:Around} {E:Value→Shared→Prop} {s:Shared} {env:Env}
theorem mP {t value:Expr} {pos:Pos} {Q:Flow→Shared→Prop} (hs:swapsWith value (some t) pos.line env=pure false) (hw:swappedStores [t] value env=pure none)
  (h:wpG M A (eval value env) (fun v s₁=>wpG M A (assign t env v) (fun _=>Q .next) E s₁) E s) (hT:autoParam ((assignEach [t] env).map (·.2)=[assign t env]) cO.more._auto_1):wpG M A (exec (.Assign [t] value pos) env) Q E s:=by
 rw [arm_exec_Assign]
 refine bM ?_
 show wpG M A (swapsWith value (some t) pos.line env >>=_) Q E s
 rw [hs]
 refine aM (aY ?_)
 rw [if_neg (by decide)]
 refine aM (aO h (fun v s₁ h₁=>?_) fun _ _ e=>e)
 rw [hw,hT]
 refine aM (aY ?_)
 exact aM (aO h₁ (fun _ _ h=>aY h) fun _ _ e=>e)
theorem oC {Q:Flow→Shared→Prop} (h:Q .next s):wpG M A (execs [] env) Q E s:=aY h
set_option backward.match.sparseCases true in
theorem wpG_execs_cons {st:Stmt} {rest:List Stmt} {Q:Flow→Shared→Prop} (h:wpG M A (exec st env) (fun f s₁=>match f with | .next=>wpG M A (execs rest env) Q E s₁ | f=>Q f s₁) E s):wpG M A (execs (st::rest) env) Q E s:=by
 rw [show execs (st::rest) env=(do match←exec st env with | .next=>execs rest env | f=>pure f) from rfl]
 refine aM (aO h (fun f s₁ h₁=>?_) fun _ _ e=>e)
 cases f <;> first | exact h₁ | exact aY h₁
end
section
variable {C:Cx} {d:Nat} {sc sc':Scope} {vars:List Str} {Γ Γ':Fx} {ρ ρ' ρ₀:dI} {σ σ':aN} {m m' m₀:Lo} {s s' s₁:Shared}
theorem SSs_nil:SSs C d sc vars [] .nil:=fun Γ r ρ σ m s Q X W hr S hv nf nd J q=>oC ⟨ρ,σ,m,.next,.refl _ _,.refl _ _ _ _,J,.next,q⟩
theorem SSs_cons {st rest a b} (h:SS C d sc vars st a) (hr:SSs C d sc vars rest b):SSs C d sc vars (st::rest) (.cons a b):=fun Γ r ρ σ m s Q X W hfr S hv nf nd J q=>by
 refine wpG_execs_cons (aO (h Γ r ρ σ m s _ X W hfr S hv nf nd J q) (fun f s₁ h=>?_) fun _ _ e=>e)
 obtain ⟨ρ₁,σ₁,m₁,fl,g₁,k₁,J₁,rf,q₁⟩:=h
 induction rf with
 | next=>exact aO (hr Γ r ρ₁ σ₁ m₁ s₁ _ X W hfr S hv nf nd J₁ q₁) (fun _ _ h=>h.after g₁ k₁) fun _ _ h=>h.after g₁ k₁
 | brk=>exact ⟨ρ₁,σ₁,m₁,.brk,g₁,k₁,J₁,.brk,q₁⟩
 | ret r=>exact ⟨ρ₁,σ₁,m₁,_,g₁,k₁,J₁,.ret r,q₁⟩
theorem Kp.toX {F X:List Addr} {h h':Heap} (k:Kp ρ F [] h h'):Kp ρ F X h h':=k.monoX fun _ q=>nomatch q
theorem PX.stm {X:Ex→Lo→aN→Prop} {e:Value} (h:PX C Γ ρ m s (fun x σ=>X x m σ) e s'):PXS C Γ ρ s X e s':=h.pxs fun _ _ q=>q
theorem PS.nx {Q:Fl→Lo→aN→Prop} (g:fO ρ ρ' s.heap) (k:Kp ρ Γ.F Γ.X s.heap s'.heap) (J:cO C Γ ρ' σ' m' s') (q:Q .next m' σ'):PS C Γ ρ s Q .next s':=⟨ρ',σ',m',.next,g,k,J,.next,q⟩
theorem SS_E {f as kw cp pos a} (h:SE C d sc vars (.Call f as kw cp) a):SS C d sc vars (.Expr (.Call f as kw cp) pos) (.sE a):=fun Γ r ρ σ m s Q X W hfr S hv nf nd J q=>by
 have hi:interactive Γ.env=false:=by unfold interactive;rw [W.kind];rfl
 rw [exec_Expr Γ.env (.Call f as kw cp) pos hi rfl]
 refine bM (aM (aO (h Γ ρ σ m s _ _ W S hv J q) (fun v s₁ h=>?_) fun _ _ h=>h.stm))
 obtain ⟨ρ₁,σ₁,v₁,g₁,k₁,J₁,r₁,q₁⟩:=h
 have fin:PS C Γ ρ s Q .next s₁:=.nx g₁ k₁.toX J₁ q₁
 unfold dropValue
 cases v <;> first | exact aY fin | skip
 refine bM (aM (bV (wpAny_runValue (codeAny_builtin entry_let_go ?_))))
 exact aI (aY fin)
theorem mF (nf:∀x,Γ.env.kindOf x≠some .free) (S:kG sc Γ.env) {x:Str} (h:isVar sc x=true):Stored Γ Γ.X x:=by
 rcases S.var x h with q | q | q
 ·exact .inl ⟨q,.head _⟩
 ·exact .inr ⟨q,fun c hc=>.tail _ (dE.mpr ⟨_,eV hc,rfl⟩)⟩
 ·exact absurd q (nf x)
theorem tgts_of (nf:∀x,Γ.env.kindOf x≠some .free) (S:kG sc Γ.env) (hv:Γ.vars=vars) {l:List Str} {is:List Nat} (h:kB sc vars l is):Tgts Γ Γ.X is l:=by
 induction h with
 | nil=>exact .nil
 | cons h _ ih=>exact .cons (hv▸(fF h).2) (mF nf S (fF h).1) ih
noncomputable def swD (e:Expr):=cond (isComp e) (swapsWith e) fun _ _ _=>pure false
theorem swD_eq (e:Expr):swapsWith e=swD e:=by cases e <;> rfl
theorem swaps_not {e:Expr} (hc:isComp e=false) {t:Option Expr} {l:Nat} {env:Env}:swapsWith e t l env=pure false:=by
 rw [swD_eq,swD,hc];rfl
noncomputable def stT (ts:List Expr) (k:Nat) (p:Pos) (e:Expr):=swappedStores [.Tuple ts k p] e
noncomputable def stU (ts:List Expr) (k:Nat) (p:Pos) (e:Expr):=cond (notTuple e) (fun _=>pure none) (stT ts k p e)
theorem stU_eq (ts:List Expr) (k:Nat) (p:Pos) (e:Expr):stT ts k p e=stU ts k p e:=by cases e <;> rfl
theorem swapped_tup {ts:List Expr} {k:Nat} {p:Pos} {e:Expr} {env:Env} (h:notTuple e=true):swappedStores [.Tuple ts k p] e env=pure none:=by
 show stT ts k p e env=_
 rw [stU_eq,stU,h];rfl
theorem SS_A {x p e pos i a} (hx:o7 sc vars x=some i) (ht:HE e) (hc:isComp e=false) (h:SE C d sc vars e a):SS C d sc vars (.Assign [.Name x p] e pos) (.sA i a):=fun Γ r ρ σ m s Q X W hfr S hv nf nd J q=>by
 refine mP (swaps_not hc) ht.stN (aO (h Γ ρ σ m s _ _ W S hv J q) (fun v s₁ h=>?_) fun _ _ h=>h.stm)
 obtain ⟨ρ₁,σ₁,v₁,g₁,k₁,J₁,r₁,q₁⟩:=h
 refine bV (bQ (jU (X:=Γ.X) J₁ W.kind nd (hv▸(fF hx).2) (mF nf S (fF hx).1) r₁) (fun _ s₂ h=>?_) fun _ _ e=>e)
 exact .nx g₁ ((k₁.toX).trans g₁ h.1) h.2 q₁
theorem tupQ_ex {n:Nat} {P:List V→Prop}:∀{v:V},tupQ n P v→∃vs,v=.tup vs∧vs.length=n∧P vs
 | .tup vs,h=>⟨vs,rfl,h⟩
theorem SS_T {ts k tp e pos xs is a} (hn:Names ts xs) (hx:kB sc vars xs is) (ht:HE e) (hnt:notTuple e=true) (h:SE C d sc vars e a):SS C d sc vars (.Assign [.Tuple ts k tp] e pos) (.sT is a):=fun Γ r ρ σ m s Q X W hfr S hv nf nd J q=>by
 refine mP ht.swT (swapped_tup hnt) (aO (h Γ ρ σ m s _ _ W S hv J q) (fun v s₁ h=>?_) fun _ _ h=>h.stm)
 obtain ⟨ρ₁,σ₁,v₁,g₁,k₁,J₁,r₁,q₁⟩:=h
 obtain ⟨us,rfl,hl,q₁⟩:=tupQ_ex q₁
 refine bV (bQ (assign_tup (X:=Γ.X) W.handled J₁ W.kind nd (fun _ h=>h) hn (tgts_of nf S hv hx) r₁ hl) (fun _ s₂ h=>?_) fun _ _ e=>e)
 exact .nx g₁ ((k₁.toX).trans g₁ h.1) h.2 q₁
theorem ERs.put {h:Heap} {n:At} {w:V} {u:Value} {hsh:Int} {t:Tok} (ru:VR h ρ u w) {es:List DictEntry} {kvs:List (At×V)} (r:ERs h ρ es kvs):ERs h ρ (putL n.name hsh (.str n.name t) u es) (putA n w kvs):=by
 induction r with
 | nil=>exact .cons ru .nil
 | @cons hs t' x k v es kvs rx l ih=>
  unfold putL
  show ERs h ρ _ (if k=n then (k,w)::kvs else (k,v)::putA n w kvs)
  by_cases e:k=n
  ·subst e
   have:(Value.str k.name t').isStr k.name=true:=by simp [Value.isStr]
   rw [if_pos this,if_pos rfl]
   exact .cons ru l
  ·have:(Value.str k.name t').isStr n.name=false:=by
    simp only [Value.isStr,beq_eq_false_iff_ne]
    exact fun q=>e (At.name_inj q)
   rw [if_neg (by rw [this];decide),if_neg e]
   exact .cons rx ih
theorem ERs.noRef {h:Heap} {es:List DictEntry} {kvs:List (At×V)} (r:ERs h ρ es kvs):es.any (·.refKey)=false:=by
 induction r with
 | nil=>rfl
 | cons rx l ih=>rw [List.any_cons,ih];rfl
theorem ERs.length {h:Heap} {es:List DictEntry} {kvs:List (At×V)} (r:ERs h ρ es kvs):es.length=kvs.length:=by
 induction r with
 | nil=>rfl
 | cons rx l ih=>exact congrArg Nat.succ ih
theorem putL_length (n:Str) (hsh:Int) (k v:Value) (es:List DictEntry):(putL n hsh k v es).length≤es.length+1:=by
 induction es with
 | nil=>exact bD _
 | cons e r ih=>
  unfold putL
  split
  ·exact eJ _
  ·exact bX ih
theorem set_sound (O:C.Ok) {x v:Value} {a w:V} {n:At} {k:aN→Prop} {E:Value→Shared→Prop} (J:cO C Γ ρ σ m s) (r:VR s.heap ρ x a) (rv:VR s.heap ρ v w) (q:wpPutA a n w σ k):
  wpAny C.M Γ.A (setAttr x n.name v) (fun _ s'=>∃σ',Kp ρ Γ.F [] s.heap s'.heap∧cO C Γ ρ σ' m s'∧k σ') E s:=by
 obtain ⟨hs,hz,q⟩:=q
 rename_i i c kvs
 refine hide fun Gx hGx=>?_
 obtain ⟨ad,dx,rfl,hi⟩:=r.inv_obj
 obtain ⟨es,nn,I,re,hd⟩:=J.inst hi hs
 refine hGx ?_
 have ok:=O.cls c
 refine set_plain (J.kin O) I ok.set (osa_open (s:={s with toks:=s.toks+1}) ((J.toks _).kin O) I ok.over (ok.taker n) fun b=>?_)
 obtain ⟨cd,hc,hd'⟩:=any_some ok.dict
 have X:C.K.In ({s with toks:=s.toks+1}:Shared).heap:=(J.toks _).kin O
 obtain ⟨hx,hcl,hn,-⟩:=I
 have hx':s.heap.get? ad=some ⟨.ref (C.clsA c),some dx,.plain,#[]⟩:=hx
 refine aC (aI (aC (aC (wpAny_loadPart hx' (aC ((looks_clsIn X hc).here ?_))))))
 rw [hd']
 refine aI (a:=some dx) (aC (aI (aC ?_)))
 unfold nsSet
 refine aC (aC (wpAny_askSetting (aI (aC (wpAny_mkText (aC (wpAny_loadPart hd ?_)))))))
 have hcc:(!es.toArray.any (·.key.isStr n.name) && es.toArray.any (·.refKey))=false:=by
  rw [←Array.any_toList,←Array.any_toList,List.toList_toArray,re.noRef,Bool.and_false]
 show wpAny _ _ (if _ then _ else _) _ _ _
 rw [aRefKeyMayBeTheName_at,hcc]
 have hu:=Heap.get?_update_self (Obj.putName n.name (PyData.keyHash C.w.params n.name) (.str n.name (s.toks+1)) v) hd (by rw [putName_dict];rfl)
 rw [putName_dict] at hu
 have hlen:=putL_length n.name (PyData.keyHash C.w.params n.name) (.str n.name (s.toks+1)) v es
 have hlen2:=re.length
 refine wpAny_updatePart hd ?_
 refine aC (wpAny_lookBehind hu (pastItsLine_dict (by rw [i7,nJ];exact aA hlen (bX (aA (cP ‹_›) (aA ‹_› (by decide)))))) ?_)
 refine aI ?_
 have kk:∀b o,s.heap.get? b=some o→b≠ad→b≠dx→(s.heap.update dx (Obj.putName n.name (PyData.keyHash C.w.params n.name) (.str n.name (s.toks+1)) v)).get? b=some o:=fun b o e _ n2=>(Heap.get?_update_other _ _ (Ne.symm n2)).trans e
 have hne:ad≠dx:=fun q=>by rw [q,hd] at hx;cases hx
 have im:=Imm.upd J hi kk
 have ra:AOR C (s.heap.update dx (Obj.putName n.name (PyData.keyHash C.w.params n.name) (.str n.name (s.toks+1)) v)) ρ (ad,dx) (.inst c (putA n w kvs)):=
  ⟨_,_,(Heap.get?_update_other _ _ (Ne.symm hne)).trans hx,hu,(ERs.mono im (fun _ _ e=>e) re).put (rv.mono im fun _ _ e=>e)⟩
 exact ⟨_,.upd hi ra kk,J.upd hi kk ra,q⟩
theorem wpG_release {M:Model} {A:Around} {E:Value→Shared→Prop} {vs keep:List Value} {α:Type} {f:Unit→Sem α} {Q:α→Shared→Prop} (h:wpG M A (f ()) Q E s):wpG M A (release vs keep >>=f) Q E s:=dC (wpAny_release h)
theorem SS_At (O:C.Ok) {o x p e pos nn a b} (hn:look x atTab=some nn) (hh:HE e) (he:SE C d sc vars e a) (ho:SE C d sc vars o b):SS C d sc vars (.Assign [.Attribute o x p] e pos) (.sAt b nn a):=fun Γ r ρ σ m s Q X W hfr S hv nf nd J q=>by
 obtain rfl:x=nn.name:=mY hn
 refine mP hh.swA hh.stA (aO (he Γ ρ σ m s _ _ W S hv J q) (fun v s₁ h=>?_) fun _ _ h=>h.stm)
 obtain ⟨ρ₁,σ₁,v₁,g₁,k₁,J₁,r₁,q₁⟩:=h
 rw [show assign (.Attribute o nn.name p) Γ.env v=(do let ov←holding [v] (eval o Γ.env);standAt p.atName;holding [v,ov] (setAttr ov nn.name v);release [v,ov] []) from rfl]
 refine aM (bL (aO (ho Γ ρ₁ σ₁ m s₁ _ _ W S hv J₁ q₁) (fun ov s₂ h=>?_) fun _ _ h=>(h.stm).after g₁ k₁.toX))
 obtain ⟨ρ₂,σ₂,v₂,g₂,k₂,J₂,r₂,q₂⟩:=h
 refine bM (aM (bL (bV (bQ (set_sound O J₂ r₂ (r₁.mono (J₁.imm k₂) fun _ _ e=>g₂.get e) q₂) (fun _ s₃ h=>?_) fun _ _ e=>e))))
 obtain ⟨σ₃,k₃,J₃,q₃⟩:=h
 refine bV (wpAny_release ?_)
 exact (PS.nx (.refl _ _) k₃.toX J₃ q₃ |>.after g₂ k₂.toX).after g₁ k₁.toX
end
end Internal
end
section
namespace Internal
open PySem PySem.W PySem.Calls PyProof.Rows Builtin
section
variable {C:Cx} {d:Nat} {sc sc':Scope} {vars:List Str} {Γ Γ':Fx} {ρ ρ' ρ₀:dI} {σ σ':aN} {m m' m₀:Lo} {s s' s₁ s0:Shared} {iv:V} {I L:Addr} {k:Nat} {xs:List Str} {caps:List Nat} {h₀:Heap}
theorem SS_P {pos}:SS C d sc vars (.Pass pos) .sP:=fun Γ r ρ σ m s Q X W hfr S hv nf nd J q=>bV (wpAny_Pass (.nx (.refl _ _) (.refl _ _ _ _) J q))
theorem SS_Brk {pos}:SS C d sc vars (.Break pos) .sBrk:=fun Γ r ρ σ m s Q X W hfr S hv nf nd J q=>bM (aY ⟨ρ,σ,m,.brk,.refl _ _,.refl _ _ _ _,J,.brk,q⟩)
theorem SS_R0 {pos}:SS C d sc vars (.Return none pos) .sR0:=fun Γ r ρ σ m s Q X W hfr S hv nf nd J q=>bM (aY ⟨ρ,σ,m,.ret .none,.refl _ _,.refl _ _ _ _,J,.ret .none,q⟩)
theorem SS_R {e a pos} (h:SE C d sc vars e a):SS C d sc vars (.Return (some e) pos) (.sR a):=fun Γ r ρ σ m s Q X W hfr S hv nf nd J q=>by
 rw [arm_exec_Return]
 refine bM ?_
 refine aM (aO (h Γ ρ σ m s _ _ W S hv J q) (fun v s₁ h=>aY ?_) fun _ _ h=>h.stm)
 obtain ⟨ρ₁,σ₁,v₁,g₁,k₁,J₁,r₁,q₁⟩:=h
 exact ⟨ρ₁,σ₁,m,.ret v₁,g₁,k₁.toX,J₁,.ret r₁,q₁⟩
theorem SS_If {c t e pos mc mt me} (hc:ST C d sc vars c mc) (ht:SSs C d sc vars t mt) (he:SSs C d sc vars e me):SS C d sc vars (.If c t e pos) (.sIf mc mt me):=fun Γ r ρ σ m s Q X W hfr S hv nf nd J q=>by
 rw [arm_exec_If]
 refine bM (aM (aO (hc Γ ρ σ m s _ _ W S hv J q) (fun b s₁ h=>?_) fun _ _ h=>h.stm))
 obtain ⟨ρ₁,σ₁,g₁,k₁,J₁,q₁⟩:=h
 cases b
 ·exact aO (he Γ r ρ₁ σ₁ m s₁ _ X W hfr S hv nf nd J₁ q₁) (fun _ _ h=>h.after g₁ k₁.toX) fun _ _ h=>h.after g₁ k₁.toX
 ·exact aO (ht Γ r ρ₁ σ₁ m s₁ _ X W hfr S hv nf nd J₁ q₁) (fun _ _ h=>h.after g₁ k₁.toX) fun _ _ h=>h.after g₁ k₁.toX
theorem setItem_at {prog:Program} {w:World} {A:Around} {E:Value→Shared→Prop} {l:Addr} {items:Array Value} {n:Nat} {k:Int} {t:Tok} {v:Value} {Q:Unit→Shared→Prop} (hl:IsL s.heap l items n) (h0:0≤k) (hfit:k < 2 ^ 63) (hn:k < items.size)
  (hQ:Q () {s with heap:=s.heap.update l (Obj.mapSeq (·.setIfInBounds k.toNat v))}):wpAny (model prog w) A (setItem (.ref l) (.int k t) v) Q E s:=by
 have hT:s.TypeIs (.ref l) "list" :=⟨_,hl,rfl⟩
 unfold setItem
 try with_reducible refine gN ?_
 first | refine aC (aI ?_) | skip
 refine aC (wpAny_sequenceKey hT (by decide) ?_)
 refine aC (wpAny_callSpecial?_slot (name:=Str.ofString "__setitem__") hT slot_list_setitem (wpAny_call_entry slot_list_setitem hT entry_list_setitem ?_ (args_list_setitem _ _ _)))
 show wpAny _ _ (Builtin.List.listSubscript? (.int k t) >>=_) _ _ s
 refine aC (wpAny_listSubscript_int (fitsIndex_of h0 hfit) ?_)
 clear hfit
 obtain ⟨j,rfl⟩:=Int.eq_ofNat_of_zero_le h0
 have hj:j < items.size:=by omega
 refine aC (aC (wpAny_seqItemAt hl rfl (aI ?_)))
 rw [gG hj]
 refine aC (wpAny_setSeqItemAt hl rfl ?_)
 first
  | exact aC (aI (aI ⟨.none,rfl,aI hQ⟩))
  | exact aI ⟨.none,rfl,aI hQ⟩
theorem setI_sound {x y v:Value} {a b w:V} {k:aN→Prop} {E:Value→Shared→Prop} (J:cO C Γ ρ σ m s) (ra:VR s.heap ρ x a) (rb:VR s.heap ρ y b) (rv:VR s.heap ρ v w) (q:wpPutI a b w σ k):
  wpAny C.M Γ.A (setItem x y v) (fun _ s'=>∃σ',Kp ρ Γ.F [] s.heap s'.heap∧cO C Γ ρ σ' m s'∧k σ') E s:=by
 obtain ⟨hs,h1,q⟩:=q
 rename_i i vs j
 obtain ⟨ad,dx,rfl,hi⟩:=ra.inv_obj
 obtain ⟨t,rfl⟩:=rb.inv_int
 obtain ⟨hd,xs,n,e,z,rs⟩:=J.obj i _ _ hi hs
 obtain rfl:dx=ad:=hd
 have hsz:=rs.size
 have z':=z
 rw [lO] at z'
 rw [←hsz] at h1
 refine setItem_at e (aV j) (by omega) (by omega) ?_
 have kk:∀b o,s.heap.get? b=some o→b≠dx→b≠dx→(s.heap.update dx (Obj.mapSeq (·.setIfInBounds (j:Int).toNat v))).get? b=some o:=fun b o e n _=>(Heap.get?_update_other _ _ (Ne.symm n)).trans e
 have im:=Imm.upd J hi kk
 have ho:=Heap.get?_update_self (Obj.mapSeq (·.setIfInBounds (j:Int).toNat v)) e rfl
 have ra':AOR C (s.heap.update dx (Obj.mapSeq (·.setIfInBounds (j:Int).toNat v))) ρ (dx,dx) (.list (vs.set (j:Int).toNat w)):=⟨rfl,_,_,ho,by rw [Array.size_setIfInBounds];exact z,by
  rw [Array.toList_setIfInBounds];exact (rs.mono im fun _ _ e=>e).set (rv.mono im fun _ _ e=>e) _⟩
 exact ⟨_,.upd hi ra' kk,J.upd hi kk ra',q⟩
theorem assign_sub (o i:Expr) (p:Pos) (env:Env) (v:Value):∃l:Value→Value→List Value,assign (.Subscript o i p) env v=(do
  let ov←holding [v] (eval o env)
  let iv←holding [v,ov] (eval i env)
  standAt p
  holding [v,ov,iv] (setItem ov iv v)
  release (l ov iv) []):=⟨_,rfl⟩
theorem SS_Ix {o i p e pos a mo mi} (hh:HE e) (he:SE C d sc vars e a) (ho:SE C d sc vars o mo) (hi:SE C d sc vars i mi):SS C d sc vars (.Assign [.Subscript o i p] e pos) (.sIx mo mi a):=fun Γ r ρ σ m s Q X W hfr S hv nf nd J q=>by
 refine mP hh.swS hh.stS (aO (he Γ ρ σ m s _ _ W S hv J q) (fun v s₁ h=>?_) fun _ _ h=>h.stm)
 obtain ⟨ρ₁,σ₁,v₁,g₁,k₁,J₁,r₁,q₁⟩:=h
 obtain ⟨l,hl⟩:=assign_sub o i p Γ.env v
 rw [hl]
 refine aM (bL (aO (ho Γ ρ₁ σ₁ m s₁ _ _ W S hv J₁ q₁) (fun ov s₂ h=>?_) fun _ _ h=>(h.stm).after g₁ k₁.toX))
 obtain ⟨ρ₂,σ₂,v₂,g₂,k₂,J₂,r₂,q₂⟩:=h
 refine aM (bL (aO (hi Γ ρ₂ σ₂ m s₂ _ _ W S hv J₂ q₂) (fun iv s₃ h=>?_) fun _ _ h=>((h.stm).after g₂ k₂.toX).after g₁ k₁.toX))
 obtain ⟨ρ₃,σ₃,v₃,g₃,k₃,J₃,r₃,q₃⟩:=h
 have i2:=J₁.imm k₂
 have i3:=J₂.imm k₃
 refine bM (aM (bL (bV (bQ (setI_sound J₃ (r₂.mono i3 fun _ _ e=>g₃.get e) r₃ ((r₁.mono i2 fun _ _ e=>g₂.get e).mono i3 fun _ _ e=>g₃.get e) q₃) (fun _ s₄ h=>?_) fun _ _ e=>e))))
 obtain ⟨σ₄,k₄,J₄,q₄⟩:=h
 refine bV (wpAny_release ?_)
 exact (((PS.nx (.refl _ _) k₄.toX J₄ q₄).after g₃ k₃.toX).after g₂ k₂.toX).after g₁ k₁.toX
noncomputable def WBinD (σ:aN) (Q:V→aN→Prop):BOp→V→V→Prop
 | .add,.int x,.int y=>Q (.int (x+y)) σ
 | .bor,.int x,.int y=>∃a b:Nat,x=a∧y=b∧Q (.int ((a ||| b:Nat):Int)) σ
 | .shr,.int x,.int y=>0≤y∧Q (.int (x / 2 ^ y.toNat)) σ
 | _,_,_=>True
theorem WBin.inv {σ:aN} {Q:V→aN→Prop} {o:BOp} {a b:V} (q:WBin σ Q o a b):WBinD σ Q o a b:=by
 induction q with
 | add q=>exact q
 | or q=>exact ⟨_,_,rfl,rfl,q⟩
 | shr h q=>exact ⟨h,q⟩
 | _=>exact True.intro
inductive Aug:Operator→BOp→Prop
 | add:Aug .Add .add
 | shr:Aug .RShift .shr
 | or:Aug .BitOr .bor
theorem aug_sound {op:Operator} {o:BOp} {x w:Int} {t u:Tok} {Q:V→aN→Prop} {E:Value→Shared→Prop} (J:cO C Γ ρ σ m s) (ho:Aug op o) (q:mQ o (.int x) (.int w) σ Q):
  wpAny C.M Γ.A (inplaceOp op (.int x t) (.int w u)) (fun v s'=>∃v' tk,s'={s with toks:=tk}∧VR s.heap ρ v v'∧Q v' σ) E s:=by
 cases ho
 ·exact iadd_int ⟨_,s.toks+1,rfl,.int _ _,q.inv⟩
 ·obtain ⟨h1,q⟩:=q.inv
  refine irshift_int h1 ⟨_,s.toks+1,rfl,.int _ _,?_⟩
  rw [pM _ (eZ (Int.pow_pos (by decide)))];exact q
 ·obtain ⟨a,b,rfl,rfl,q2⟩:=q.inv
  exact ior_int ⟨_,s.toks+1,rfl,.int _ _,by rw [bitOr_nat (aV _) (aV _)];exact q2⟩
theorem SS_G {x p op e pos i o a} (hx:o7 sc vars x=some i) (hop:Aug op o) (he:SE C d sc vars e a):SS C d sc vars (.AugAssign (.Name x p) op e pos) (.sG i o a):=fun Γ r ρ σ m s Q X W hfr S hv nf nd J q=>by
 obtain ⟨ov,hg,q⟩:=optP_ex q
 obtain ⟨old,rfl,q⟩:=nT q
 obtain ⟨a1,a2⟩:=fF hx
 rw [arm_exec_AugAssign]
 refine bM (aM (bV ?_))
 refine var_load (M:=C.M) J W.kind (S.var x a1) (isVar_odd a1) (hv▸a2) hg fun u ru=>?_
 obtain ⟨tu,rfl⟩:=ru.inv_int
 refine aM (bL (aO (he Γ ρ σ m s _ _ W S hv J q) (fun v s₁ h=>?_) fun _ _ h=>h.stm))
 obtain ⟨ρ₁,σ₁,v₁,g₁,k₁,J₁,r₁,q₁⟩:=h
 obtain ⟨w,rfl,q₁⟩:=nT q₁
 obtain ⟨tv,rfl⟩:=r₁.inv_int
 have H:=aug_sound (C:=C) (Γ:=Γ) (E:=PXS C Γ ρ s X) (t:=tu) (u:=tv) J₁ hop q₁
 refine bM ?_
 refine dC ?_
 refine wpAny_operating ?_
 refine bQ H (fun v s₂ h=>?_) fun _ _ e=>e
 obtain ⟨v',tk,rfl,rv,q₂⟩:=h
 refine bM (dC (wpAny_bindName (bQ (store_sound (X:=Γ.X) (J₁.toks tk) W.kind nd (hv▸a2) (mF nf S a1) rv) (fun _ s₃ h=>?_) fun _ _ e=>e)))
 exact aY (.nx g₁ ((k₁.toX).trans g₁ h.1) h.2 q₂)
theorem SS_GA (O:C.Ok) {o x p op e pos nn b bo a} (hn:look x atTab=some nn) (ho:SE C d sc vars o b) (hop:Aug op bo) (he:SE C d sc vars e a):SS C d sc vars (.AugAssign (.Attribute o x p) op e pos) (.sGA b nn bo a):=fun Γ r ρ σ m s Q X W hfr S hv nf nd J q=>by
 obtain rfl:x=nn.name:=mY hn
 rw [arm_exec_AugAssign_2]
 refine bM (aM (aO (ho Γ ρ σ m s _ _ W S hv J q) (fun ov s₁ h=>?_) fun _ _ h=>h.stm))
 obtain ⟨ρ₁,σ₁,v₁,g₁,k₁,J₁,r₁,q₁⟩:=h
 refine aM (bL (bM (dC (bQ (attr_sound O J₁ r₁ q₁) (fun old s₂ h=>?_) fun _ _ e=>e))))
 obtain ⟨w,rfl,rw',q₂⟩:=h
 refine aM (bL (aO (he Γ ρ₁ σ₁ m _ _ _ W S hv (J₁.toks _) q₂) (fun v s₃ h=>?_) fun _ _ h=>PXP.after g₁ k₁.toX (h.stm.hp rfl)))
 obtain ⟨ρ₃,σ₃,v₃,g₃,k₃,J₃,r₃,q₃⟩:=h
 obtain ⟨iw,rfl,q₅⟩:=nT q₃
 obtain ⟨iv₃,rfl,q₆⟩:=nT q₅
 clear q₃ q₅
 obtain ⟨t1,rfl⟩:=rw'.inv_int
 obtain ⟨t2,rfl⟩:=r₃.inv_int
 refine bM (bV (wpAny_operating (bQ (aug_sound J₃ hop q₆) (fun v s₄ h=>?_) fun _ _ e=>e)))
 obtain ⟨v',tk,rfl,rv,q₄⟩:=h
 have i3:=(J₁.toks (s₁.toks+1)).imm k₃
 refine bM (aM (bL (bV (bQ (set_sound (s:={s₃ with toks:=tk}) O (J₃.toks tk) (r₁.mono i3 fun _ _ e=>g₃.get e) rv q₄) (fun _ s₅ h=>?_) fun _ _ e=>e))))
 obtain ⟨σ₅,k₅,J₅,q₅⟩:=h
 refine wpG_release (aY ?_)
 have k₃':Kp ρ₁ Γ.F [] s₁.heap s₃.heap:=k₃
 have g₃':fO ρ₁ ρ₃ s₁.heap:=g₃
 exact PS.nx (g₁.trans g₃' k₁.size) (((k₁.trans g₁ k₃').toX).trans (g₁.trans g₃' k₁.size) k₅.toX) J₅ q₅
theorem EndL.keep (e:EndL C Γ ρ h₀ L s) (k:Kp ρ Γ.F Γ.X s.heap s'.heap):EndL C Γ ρ h₀ L s':=by
 obtain ⟨nm,o,es,ep,h1,h2⟩:=e.ns
 exact ⟨⟨nm,o,es,ep,k.keep _ _ h1 e.own e.X e.F,h2⟩,e.fresh,e.own,e.F,e.X⟩
theorem acomp_core {elt tg it:Expr} {ifs:List Expr} {kk:Nat} {mi me mit:M} {cpos pos p:Pos} {x:Str} {i:Nat} (hx:o7 sc vars x=some i) (K:nH sc sc' xs) (htg:Tg tg xs kk) (hif:Ifs C d sc' (xs++bO sc') ifs mi) (he:SE C d sc' (xs++bO sc') elt me)
  (hcap:kB sc vars (bO sc') caps) (hit:HE it) {Γ:Fx} {ρ:dI} {σ:aN} {m:Lo} {s:Shared} {Q:Fl→Lo→aN→Prop} {X:Ex→Lo→aN→Prop} (W:Γ.Wf d) (S:kG sc Γ.env) (hv:Γ.vars=vars) (nf:∀x,Γ.env.kindOf x≠some .free) (nd:Γ.vars.Nodup) (J:cO C Γ ρ σ m s)
  (hI:∀Q X,wpI (wpCall d) mit m σ (fun K=>wpE (wpCall d) mit m σ K X) Q X→wpG C.M Γ.A (eval it Γ.env) (PI C Γ ρ m s Q) (PX C Γ ρ m s X) s) (q:wpE (wpCall d) (.comp me kk mit mi caps) m σ (fun v σ=>Q .next (jY m i v) σ) (fun x σ=>X x m σ)):
  wpG C.M Γ.A (exec (.Assign [.Name x p] (.ListComp elt [⟨tg,it,ifs,0⟩] sc' cpos) pos) Γ.env) (PS C Γ ρ s Q) (PXS C Γ ρ s X) s:=by
 obtain ⟨b,hb⟩:∃b,swapsWith (.ListComp elt [⟨tg,it,ifs,0⟩] sc' cpos) (some (.Name x p)) pos.line Γ.env=pure b:=⟨_,rfl⟩
 induction b with
 | false=>
  refine mP hb (by rfl) (aO (comp_local K htg hif he hcap hit W S hv J hI q) (fun v s₁ h=>?_) fun _ _ h=>h.stm)
  obtain ⟨ρ₁,σ₁,v₁,g₁,k₁,J₁,r₁,q₁⟩:=h
  refine bV (bQ (jU (X:=Γ.X) J₁ W.kind nd (hv▸(fF hx).2) (mF nf S (fF hx).1) r₁) (fun _ s₂ h=>?_) fun _ _ e=>e)
  exact .nx g₁ ((k₁.toX).trans g₁ h.1) h.2 q₁
 | true=>
  rw [exec_Assign_Name_used _ _ _ _ hb]
  refine bM ?_
  refine aM (aM (aO (comp_core (Q':=fun _ s'=>PS C Γ ρ s Q .next s') ⟨K,htg,hif,he,W⟩ S hv hcap hit hI J q fun ρ' σ' v v' L s' g k J' r hq e=>?_) (fun _ s' h=>aY (aY h)) fun _ _ h=>h.stm))
  refine bQ (jU (X:=Γ.X) J' W.kind nd (hv▸(fF hx).2) (mF nf S (fF hx).1) r) (fun _ s'' h=>?_) fun _ _ e=>e
  have e':=e.keep h.1
  obtain ⟨nm,n⟩:=e'.ns
  refine ⟨nm,n,fun h' hs=>?_⟩
  obtain ⟨a,_,c⟩:=e'.gone (tk:=s''.toks) (ρ₀:=ρ) h.2 J.size0 hs
  exact .nx g (c (fun _ q=>q) g ((k.toX).trans g h.1)) a hq
theorem SS_Acomp {elt tg it:Expr} {ifs:List Expr} {kk:Nat} {mi me mit:M} {cpos pos p:Pos} {x:Str} {i:Nat} (hx:o7 sc vars x=some i) (K:nH sc sc' xs) (htg:Tg tg xs kk) (hif:Ifs C d sc' (xs++bO sc') ifs mi) (he:SE C d sc' (xs++bO sc') elt me)
  (hcap:kB sc vars (bO sc') caps) (hit:HE it) (hI:SI C d sc vars it mit):SS C d sc vars (.Assign [.Name x p] (.ListComp elt [⟨tg,it,ifs,0⟩] sc' cpos) pos) (.sA i (.comp me kk mit mi caps)):=fun Γ r ρ σ m s Q X W hfr S hv nf nd J q=>
 acomp_core hx K htg hif he hcap hit W S hv nf nd J (fun Q X q=>hI Γ ρ σ m s Q X W S hv J q) q
theorem Fx.Wf.frame (W:Γ.Wf d) {r:List Env} (hfr:Γ.fr=Γ.env::r):∃L,Γ.env.frame=some L:=by
 obtain ⟨t,r',L,a,b,c⟩:=W.top
 exact ⟨L,c⟩
theorem loop_raise {X:Ex→Lo→aN→Prop} {e:Value} {r:List Env} {E:Value→Shared→Prop} (W:Γ.Wf d) (hfr:Γ.fr=Γ.env::r) (z0:oM C.h₀ s0.heap) (h:PXS C Γ ρ₀ s0 X e s):
  wpG C.M Γ.A (do noteFrame e Γ.env;theTreesLotGoes e) (fun _ s''=>cameBackBy C.M Γ.A Γ.env (PXS C Γ ρ₀ s0 X) e s'') E s:=by
 obtain ⟨L,hL⟩:=W.frame hfr
 exact bV (aC (pB z0 W.frames hfr hL h fun s' h'=>wpAny_theTreesLotGoes (back_sound z0 hL h' fun _ h=>h)))
theorem mark_none {A:Around}:A.mark none=A:=by cases A with | mk h=>cases h <;> rfl
theorem under_while {A:Around} {t:Expr} {b o:List Stmt} {env:Env}:(A.mark none).under (.whileLoop t b o env)=A:=by
 rw [mark_none];exact iU (by rfl) (by rfl)
theorem under_for {A:Around} {t:Expr} {it:Value} {b o:List Stmt} {env:Env}:(A.mark none).under (.forLoop t it b o env)=A:=by
 rw [mark_none];exact iU (by rfl) (by rfl)
theorem under_block {A:Around} {b:List Stmt} {env:Env}:(A.mark none).under (.block b env)=A:=by
 rw [mark_none];exact iU (by rfl) (by rfl)
noncomputable def flowP (c:Code):Flow→Sem Fin
 | .next | .cont=>again c
 | .brk=>pure (.done .next)
 | .ret v=>pure (.done (.ret v))
theorem flow_sound {c:Code} {P:Fin→Shared→Prop} {R:Lo→aN→Prop} {Q:Fl→Lo→aN→Prop} {f:Flow} {M:Model} (h:PS C Γ ρ s (lpK R Q) f s')
  (hA:∀ρ' σ' m',fO ρ ρ' s.heap→Kp ρ Γ.F Γ.X s.heap s'.heap→cO C Γ ρ' σ' m' s'→R m' σ'→P (.again c) s') (hD:∀f,PS C Γ ρ s Q f s'→P (.done f) s'):wpG M A (flowP c f) P E s':=by
 obtain ⟨ρ',σ',m',fl,g,k,J,rf,q⟩:=h
 induction rf with
 | next=>exact aY (hA _ _ _ g k J q)
 | brk=>exact aY (hD _ (.nx g k J q))
 | ret rv=>exact aY (hD _ ⟨_,_,_,_,g,k,J,.ret rv,q⟩)
noncomputable def wT (d:Nat) (mc:M) (X:Ex→Lo→aN→Prop) (m:Lo) (σ:aN) (k:Bool→aN→Prop):Prop:=wpT (wpCall d) mc m σ (fun K=>wpE (wpCall d) mc m σ K (exX X m)) k (exX X m)
noncomputable def wB (d:Nat) (mb:M) (X:Ex→Lo→aN→Prop) (m:Lo) (σ:aN) (K:Fl→Lo→aN→Prop):Prop:=wpSs (wpCall d) mb m σ K X
inductive LInv (C:Cx) (Γ:Fx) (ρ:dI) (h₀:Heap) (P:Lo→aN→Prop) (s:Shared):Prop
 | mk (ρ':dI) (σ':aN) (m':Lo) (g:fO ρ ρ' h₀) (k:Kp ρ Γ.F Γ.X h₀ s.heap) (J:cO C Γ ρ' σ' m' s) (q:P m' σ')
theorem while_turn {c b mc mb} {r:List Env} {n:Nat} {P:Fin→Shared→Prop} {Q:Fl→Lo→aN→Prop} {X:Ex→Lo→aN→Prop} (hc:ST C d sc vars c mc) (hb:SSs C d sc vars b mb) (W:Γ.Wf d) (hfr:Γ.fr=Γ.env::r) (S:kG sc Γ.env) (hv:Γ.vars=vars) (nf:∀x,Γ.env.kindOf x≠some .free) (nd:Γ.vars.Nodup)
  (hA:∀s',LInv C Γ ρ s.heap (whileN (wT d mc X) (wB d mb X) Q n) s'→P (.again (.whileLoop c b [] Γ.env)) s') (hD:∀f s',PS C Γ ρ s Q f s'→P (.done f) s') (h:LInv C Γ ρ s.heap (whileN (wT d mc X) (wB d mb X) Q (n+1)) s₁):wpG C.M Γ.A (whileTurn c b [] Γ.env) P (PXS C Γ ρ s X) s₁:=by
 obtain ⟨ρ1,σ1,m1,g1,k1,J1,q1⟩:=h
 refine aM (aO (hc Γ ρ1 σ1 m1 s₁ _ _ W S hv J1 q1) (fun t s2 h=>?_) fun _ _ h=>(h.stm).after g1 k1)
 obtain ⟨ρ2,σ2,g2,k2,J2,q2⟩:=h
 have g12:=g1.trans g2 k1.size
 have k12:=k1.trans g1 k2.toX
 cases t
 ·exact aM (oC (aY (hD _ _ (.nx g12 k12 J2 q2))))
 ·exact aM (m:=execs b Γ.env) (f:=flowP (.whileLoop c b [] Γ.env)) (aO (hb Γ r ρ2 σ2 m1 s2 _ X W hfr S hv nf nd J2 q2) (fun fl s3 h=>flow_sound (h.after g12 k12) (fun ρ3 σ3 m3 g k J q=>hA _ ⟨ρ3,σ3,m3,g,k,J,q⟩) fun f h=>hD f _ h) fun _ _ h=>h.after g12 k12)
theorem SS_W {c b pos mc mb} (hc:ST C d sc vars c mc) (hb:SSs C d sc vars b mb):SS C d sc vars (.While c b [] pos) (.sW mc mb):=fun Γ r ρ σ m s Q X W hfr S hv nf nd J q=>by
 obtain ⟨n,q⟩:=q
 rw [arm_exec_While]
 refine bM (wpG_runOwn (codeG_loop' rfl rfl (fun n=>LInv C Γ ρ s.heap (whileN (wT d mc X) (wB d mb X) Q n)) (fun n s1 h=>?_) n ⟨ρ,σ,m,.refl _ _,.refl _ _ _ _,J,q⟩))
 rw [under_while]
 refine iC (aO (E:=PXS C Γ ρ s X) ?_ (fun _ _ h=>h) fun e s2 h=>loop_raise W hfr J.live0 h)
 induction n with
 | zero=>exact h.rec fun _ _ _ _ _ _ q=>q.elim
 | succ n=>exact while_turn hc hb W hfr S hv nf nd (fun s' h=>.turn (jX n) h) (fun f s' h=>.done h) h
theorem codeG_block_nil {env:Env} {A:Around} {R:Result→Shared→Prop} (h:R (.ok .next) s):codeG C.M (A.mark none) (.block [] env) R s:=by
 refine dZ rfl ?_
 exact aM (iC (oC (aY h)))
inductive FInv (C:Cx) (Γ:Fx) (ρ:dI) (h₀:Heap) (I:Addr) (iv:V) (F:Nat→Lo→aN→Prop) (s:Shared):Prop
 | mk (ρ':dI) (σ':aN) (m':Lo) (k:Nat) (g:fO ρ ρ' h₀) (kp:Kp ρ Γ.F Γ.X h₀ s.heap) (J:cO C Γ ρ' σ' m' s) (S:Src C s.heap ρ' I iv k) (w:F k m' σ')
noncomputable def forP (tg:Expr) (I:Addr) (b:List Stmt) (env:Env) (c:Code) (v:Value):Sem Fin:=do
 letOwnedTupleGo tg (.ref I) v
 assign tg env v
 execs b env >>=flowP c
noncomputable def forQ (c:Code) (t:Value→Sem Fin):Option Value→Sem Fin
 | none=>again c
 | some v=>t v
theorem forTurn_eq (tg:Expr) (I:Addr) (b:List Stmt) (env:Env):forTurn tg (.ref I) b [] env=standAt tg.pos >>=fun _=>((pyNext (.ref I)).onRaise fun _=>standAt {tg.pos with line:=0}) >>=forQ (.block [] env) (forP tg I b env (.forLoop tg (.ref I) b [] env)):=rfl
theorem for_body {tg:Expr} {b:List Stmt} {kk n:Nat} {is:List Nat} {mb:M} {r:List Env} {u:Value} {v:V} {c:Code} {P:Fin→Shared→Prop} {Q:Fl→Lo→aN→Prop} {X:Ex→Lo→aN→Prop} (htg:Tg tg xs kk) (hx:kB sc vars xs is) (hb:SSs C d sc vars b mb) (W:Γ.Wf d) (hfr:Γ.fr=Γ.env::r) (S:kG sc Γ.env) (hv:Γ.vars=vars) (nf:∀x,Γ.env.kindOf x≠some .free) (nd:Γ.vars.Nodup)
  (hA:∀s',FInv C Γ ρ s.heap I iv (forN iv is (kk==0) (wB d mb X) Q n) s'→P (.again c) s') (hD:∀f s',PS C Γ ρ s Q f s'→P (.done f) s') (g:fO ρ ρ' s.heap) (kp:Kp ρ Γ.F Γ.X s.heap s₁.heap) (J:cO C Γ ρ' σ m s₁) (ru:VR s₁.heap ρ' u v) (Sr:Src C s₁.heap ρ' I iv (k+1)) (w:BdR m is (kk==0) (wB d mb X) v σ (lpK (forN iv is (kk==0) (wB d mb X) Q n (k+1)) Q)):wpG C.M Γ.A (forP tg I b Γ.env c u) P (PXS C Γ ρ s X) s₁:=by
 obtain ⟨m',hb',wb⟩:=w
 refine goes_not Sr (dC (bQ (bind_sound (X:=Γ.X) W.handled J W.kind nd (fun _ h=>h) htg (tgts_of nf S hv hx) ru hb') (fun _ s3 h=>?_) fun _ _ e=>e))
 have S4:=Sr.mono (J.imm2 h.1) fun _ _ e=>e
 have kp4:=kp.trans g h.1
 refine aM (aO (hb Γ r ρ' σ m' s3 _ X W hfr S hv nf nd h.2 wb) (fun fl s5 h5=>?_) fun _ _ h=>h.after g kp4)
 obtain ⟨ρ3,σ3,m3,fl',g3,k3,J3,rf,q3⟩:=h5
 have g5:=g.trans g3 kp4.size
 have k5:=kp4.trans g k3
 induction rf with
 | next=>exact aY (hA _ ⟨ρ3,σ3,m3,k+1,g5,k5,J3,S4.mono (h.2.imm2 k3) (fun _ _ e=>g3.get e),q3⟩)
 | brk=>exact aY (hD _ _ (.nx g5 k5 J3 q3))
 | ret rv=>exact aY (hD _ _ ⟨ρ3,σ3,m3,_,g5,k5,J3,.ret rv,q3⟩)
theorem SS_F {tg it:Expr} {b:List Stmt} {pos:Pos} {kk:Nat} {is:List Nat} {mit mb:M} (htg:Tg tg xs kk) (hx:kB sc vars xs is) (hit:HE it) (hI:SI C d sc vars it mit) (hb:SSs C d sc vars b mb):
  SS C d sc vars (.For tg it b [] pos) (.sF is (kk==0) mit mb):=fun Γ r ρ σ m s Q X W hfr S hv nf nd J q=>by
 have z0:=J.size0
 rw [arm_exec_For]
 refine bM (aM (aO (hI Γ ρ σ m s _ _ W S hv J q) (fun x s1 h=>?_) fun _ _ h=>h.stm))
 obtain ⟨ρ1,σ1,iv,g1,k1,J1,r1,nn,q1⟩:=h
 refine aM (iW (hit.fold _ x) (bM ?_))
 induction nn with
 | zero=>exact q1.elim
 | succ nn=>
 have hvs:∃vs,jD iv σ1=some vs:=q1.rec fun vs h _ _=>⟨vs,h⟩
 obtain ⟨vs,hvs⟩:=hvs
 refine aM (bL (bV (iter_sound (M:=C.M) J1 r1 hvs fun oI hoI S1=>?_)))
 have hsz:top s.heap≤s1.heap.objs.size:=aA k1.size (eB _)
 have kp0:Kp ρ Γ.F Γ.X s.heap (s1.heap.push oI):=(k1.trans g1 (.push oI)).toX
 refine wpG_runOwn (codeG_loop' rfl rfl (fun n=>FInv C Γ ρ s.heap s1.heap.objs.size iv (forN iv is (kk==0) (wB d mb X) Q n)) (fun n s2 h=>?_) (nn+1) ⟨ρ1,σ1,m,0,g1,kp0,J1.push oI s1.toks,S1,q1⟩)
 rw [under_for]
 refine iC (aO (E:=PXS C Γ ρ s X) ?_ (fun _ _ h=>h) fun e s3 h=>loop_raise W hfr J.live0 h)
 rw [forTurn_eq]
 obtain ⟨ρ2,σ2,m2,k,g2,k2,J2,S2,w⟩:=h
 induction n with
 | zero=>exact w.elim
 | succ n=>
 obtain ⟨vs,hvs,w0,w1⟩:=w
 have lose:∀{h':Heap} {tk:Nat},(∀b o,b≠s1.heap.objs.size→s2.heap.get? b=some o→h'.get? b=some o)→Kp ρ Γ.F Γ.X s.heap h'∧cO C Γ ρ2 σ2 m2 {s2 with heap:=h',toks:=tk}:=fun {h' tk} kq=>by
  obtain ⟨o,e,hr,_⟩:=S2.rec_
  exact ⟨k2.lose hsz (fun b o e q=>J2.liveOwn (q.imp (fun q=>q.mono g2) id)) kq,J2.lose (aA z0 hsz) e hr kq⟩
 refine bM (aM (iC (bV (next_sound W.handled J2 S2 hvs (fun v u h' tk hx' ru S3 kq=>?_) fun h' tk hx' kq=>?_))))
 ·exact for_body htg hx hb W hfr S hv nf nd (fun s' h=>.turn (jX n) h) (fun f s' h=>.done h) g2 (lose (tk:=tk) kq).1 (lose kq).2 ru S3 (w1 v hx')
 ·exact aY (.on rfl (codeG_block_nil (.nx g2 (lose (tk:=tk) kq).1 (lose kq).2 (w0 hx'))))
end
end Internal
end
section
namespace Internal
open PySem PySem.W PySem.Calls PyProof.Rows Builtin
noncomputable def excMro:List Value:=[.type "Exception",.type "BaseException",.type "object"]
noncomputable def OwnP (h:Heap) (A:Addr) (bm N nm qn bs hdct sn sub ab col dd k0 k1 k2 k3 k5 mN):=
 h.get? A=some (excClassObj nm qn A N bs bm hdct sn sub ab col dd k0 k1 k2 k3 k5 "Exception.__new__")∧h.Ns N mN∧mN "__init__" =none∧OwnTail h excMro bm
inductive OwnI (h:Heap) (A:Addr):Prop
 | mk (bm) {N nm qn bs hdct sn sub ab col dd k0 k1 k2 k3 k5 mN} (p:OwnP h A bm N nm qn bs hdct sn sub ab col dd k0 k1 k2 k3 k5 mN)
theorem OwnI.of {h:Heap} {A:Addr} {x:Str} {mg:Str→Option Value} (O:OwnCls x A excMro "Exception.__new__" mg h):OwnI h A:=
 (O.obj:∃bm N nm qn bs hdct sn sub ab col dd k0 k1 k2 k3 k5 mN,OwnP h A bm N nm qn bs hdct sn sub ab col dd k0 k1 k2 k3 k5 mN).elim fun _ h=>h.elim fun _ h=>h.elim fun _ h=>h.elim fun _ h=>h.elim fun _ h=>h.elim fun _ h=>h.elim fun _ h=>h.elim fun _ h=>h.elim fun _ h=>h.elim fun _ h=>h.elim fun _ h=>h.elim fun _ h=>h.elim fun _ h=>h.elim fun _ h=>h.elim fun _ h=>h.elim fun _ h=>h.elim fun _ h=>⟨_,h⟩
structure Cx.Excs (C:Cx):Prop where
 name:∀x y,look x exTab=some y→C.mg x=some (.ref (C.exA y))
 keep:∀y,keepIn C.K (.ref (C.exA y))=true
 cls:∀y,OwnI C.h₀ (C.exA y)
 hit:∀y x,exmOne C.K (.ref (C.exA y)) (.ref (C.exA x))=some (pC y x)
noncomputable def excObj (c:Value) (t:Addr):Obj:={cls:=c,data:=.fields #[.ref t,.none,.none,.none,.bool false,.none]}
section
variable {C:Cx} {d:Nat} {sc sc':Scope} {vars:List Str} {Γ Γ':Fx} {ρ ρ' ρ₀:dI} {σ σ':aN} {m m' m₀:Lo} {s s' s₁ s0:Shared} {A:Around} {E:Value→Shared→Prop}
theorem call_exc (Xs:C.Excs) {y:Ex} {vals:List Value} {Q:Value→Shared→Prop} (X:∀b o,C.h₀.get? b=some o→s.heap.get? b=some o) (hz:vals.length≤100)
  (h:∀h' e t,(∀b o,s.heap.get? b=some o→h'.get? b=some o)→s.heap.get? e=none→h'.get? e=some (excObj (.ref (C.exA y)) t)→Q (.ref e) {s with heap:=h'}):wpAny C.M A (call (.ref (C.exA y)) vals) Q E s:=by
 obtain ⟨bm,p⟩:=Xs.cls y
 obtain ⟨hC,hN,hni,T⟩:=p
 obtain ⟨hp,g,dr,tk,os⟩:=s
 refine wpAny_call_exc_subU F.excBase_Exception (by decide) F.excBase_Exception (T.keeps X) (X _ _ hC) (hN.keeps X) hni (fun h' e hm=>?_) (aA hz (aA (by decide) j1))
 obtain ⟨t,ht,_⟩:=hm.there
 exact h h' e t hm.keeps hm.new ht
theorem raise_eq {env:Env} {x:Sem Value}:raiseStmt env (some x) none=x >>=fun v=>raiseStmt env (some (pure v)) none:=rfl
theorem wpG_raiseStmt (Xs:C.Excs) {y:Ex} {env:Env} {x:Sem Value} {Q:Flow→Shared→Prop} (hh:A.handled=none)
  (h:wpG C.M A x (fun v s₁=>∃e t,v=.ref e∧(∀b o,C.h₀.get? b=some o→s₁.heap.get? b=some o)∧s₁.heap.get? e=some (excObj (.ref (C.exA y)) t)∧E (.ref e) s₁) E s):wpG C.M A (raiseStmt env (some x) none) Q E s:=by
 rw [raise_eq]
 refine aM (aO h (fun v s₁ h₁=>?_) fun _ _ e=>e)
 refine hide fun Gx hGx=>?_
 obtain ⟨e,t,rfl,X,he,hE⟩:=h₁
 obtain ⟨bm,p⟩:=Xs.cls y
 obtain ⟨hC,hN,hni,T⟩:=p
 refine hGx ?_
 exact bV (wpAny_raiseStmt_made_sub (T.hasType (by decide)) hh (aI ⟨e,t,rfl,X _ _ hC,he,hE⟩))
theorem SS_X (O:C.Ok) (Xs:C.Excs) {x:Str} {np cp pos:Pos} {as:List Expr} {y:Ex} {l:M} (hg:gC sc x=true) (hy:look x exTab=some y) (hl:SL C d sc vars as l):
  SS C d sc vars (.Raise (some (.Call (.Name x np) as [] cp)) none pos) (.sX y l):=fun Γ r ρ σ m s Q X W hfr S hv nf nd J q=>by
 rw [arm_exec_Raise]
 refine bM ?_
 refine wpG_raiseStmt Xs (y:=y) W.handled (aM ?_)
 refine wpG_Call (lF (glob_load O W J (S.glob _ hg) (Xs.name _ _ hy) ?_) (dY (iJ hg))) rfl
 refine wpG_callWith (P:=fun h=>C.K.In h) (hl.pl _ _) (keeps_K (Xs.keep y)) (l9 (hl.pl _ _) (aO (hl.run Γ ρ σ m s cp _ _ W S hv J q) (fun vs s₁ h=>?_) fun _ _ h=>h.stm))
 obtain ⟨ρ₁,σ₁,v₁,g₁,k₁,J₁,r₁,hz,q₁⟩:=h
 refine ⟨J₁.kin O,bV (call_exc Xs J₁.base (by
  show vs.length≤100
  rw [r₁.length];exact hz) fun h' e t k hn he=>?_)⟩
 refine bM (aY ⟨e,t,rfl,fun b o e=>k b o (J₁.base b o e),he,?_⟩)
 have J₂:cO C Γ ρ₁ σ₁ m {s₁ with heap:=h'}:=J₁.more k
 have k₂:Kp ρ Γ.F Γ.X s.heap h':=((k₁.trans g₁ (.of_keeps k)).toX)
 exact ⟨ρ₁,σ₁,m,y,g₁,k₂,J₂,⟨e,_,_,rfl,k₁.live.none hn,he,rfl,rfl,⟨⟨_,rfl⟩,fun _=>rfl⟩,.inl ⟨rfl,.inl rfl⟩⟩,q₁⟩
theorem glob_loadA {M:Model} {x:Str} {v:Value} {Q:Value→Shared→Prop} (O:C.Ok) (W:Γ.Wf d) (J:cO C Γ ρ σ m s) (hx:Γ.env.kindOf x=some .globalImplicit) (hv:C.mg x=some v) (h:Q v s):
  wpAny M A (loadName Γ.env x) Q E s:=ks_loadName_global W.kind hx (loadGlobal_global (W.glob▸J.mg O) hv h)
noncomputable def Fx.at (Γ:Fx) (A:Around):Fx:={Γ with A:=A}
theorem cO.at (J:cO C Γ ρ σ m s) (A:Around):cO C (Γ.at A) ρ σ m s:=⟨J.base,J.len,J.obj,J.dis,J.own0,J.frm,J.frmOwn,J.frmNew,J.frmDict,⟨J.loc.len,J.loc.ns,J.loc.cell⟩,J.newL,J.ownL,J.cells,J.cellObj,J.cellsND,J.gens,J.os⟩
theorem cO.unat {A:Around} (J:cO C (Γ.at A) ρ σ m s):cO C Γ ρ σ m s:=⟨J.base,J.len,J.obj,J.dis,J.own0,J.frm,J.frmOwn,J.frmNew,J.frmDict,⟨J.loc.len,J.loc.ns,J.loc.cell⟩,J.newL,J.ownL,J.cells,J.cellObj,J.cellsND,J.gens,J.os⟩
theorem PXP.at {X:Ex→Lo→aN→Prop} {P:Option Value→Prop} {e:Value} (h:PXP C Γ ρ s0 X P e s) (A:Around):PXP C (Γ.at A) ρ s0 X P e s:=by
 obtain ⟨ρ',σ',m',x,a,b,J,c,c1⟩:=h
 exact ⟨ρ',σ',m',x,a,b,J.at A,c,c1⟩
theorem PXP.unat {A:Around} {X:Ex→Lo→aN→Prop} {P:Option Value→Prop} {e:Value} (h:PXP C (Γ.at A) ρ s0 X P e s):PXP C Γ ρ s0 X P e s:=by
 obtain ⟨ρ',σ',m',x,a,b,J,c,c1⟩:=h
 exact ⟨ρ',σ',m',x,a,b,J.unat,c,c1⟩
set_option backward.match.sparseCases true in
theorem execs_one {st:Stmt} {env:Env} {Q:Flow→Shared→Prop} {M:Model} (h:wpAny M A (exec st env) Q E s):wpAny M A (execs [st] env) Q E s:=by
 rw [show execs [st] env=(do match←exec st env with | .next=>execs [] env | f=>pure f) from rfl]
 refine aC (bQ h (fun f s₁ h₁=>?_) fun _ _ e=>e)
 cases f <;> exact aI h₁
theorem raiseNew_under {e h:Addr} {oe oh:Obj} {vs ws:Array Value} {Q:Flow→Shared→Prop} (hh:A.handled=some (.ref h)) (hne:h≠e) (he:s.heap.get? e=some oe) (hd:oe.data=.fields vs) (hv:2 < vs.size) (ho:s.heap.get? h=some oh) (hdo:oh.data=.fields ws) (h2:ws[2]? =some .none)
  (hE:E (.ref e) {s with heap:=s.heap.update e (Obj.mapFields (·.setIfInBounds 2 (.ref h)))}):wpAny C.M A (raiseNew (.ref e):Sem Flow) Q E s:=by
 unfold raiseNew
 refine aC (wpAny_handled ?_)
 rw [hh]
 dsimp only
 rw [if_pos (by simp [hne])]
 have e1:entryFor table "proto.unchain" =some Builtin.«proto.unchain»:=entryFor_of_fast (by kernel_rfl)
 refine aC (gN (wpAny_runValue (codeAny_builtin e1 ?_)))
 unfold Builtin.«proto.unchain»
 refine aC (gJ ho hdo h2 ?_)
 rw [if_pos (by rfl)]
 refine aC (aI (aI ?_))
 unfold updateField
 refine aC (aC (kQ he ?_))
 rw [hd]
 dsimp only
 rw [if_pos hv]
 exact wpAny_update he (wpAny_throw hE)
end
end Internal
end
section
namespace Internal
open PySem PySem.W PySem.Calls PyProof.Rows Builtin
section
variable {C:Cx} {d:Nat} {sc sc':Scope} {vars:List Str} {Γ Γ':Fx} {ρ ρ' ρ₀:dI} {σ σ':aN} {m m' m₀:Lo} {s s' s₁ s0:Shared} {A:Around} {E:Value→Shared→Prop}
theorem raise_under (Xs:C.Excs) {y:Ex} {env:Env} {e t h:Addr} {oh:Obj} {ws:Array Value} {Q:Flow→Shared→Prop} (hh:A.handled=some (.ref h)) (hne:h≠e) (X:∀b o,C.h₀.get? b=some o→s.heap.get? b=some o) (he:s.heap.get? e=some (excObj (.ref (C.exA y)) t)) (ho:s.heap.get? h=some oh) (hdo:oh.data=.fields ws) (h2:ws[2]? =some .none)
  (hE:E (.ref e) {s with heap:=s.heap.update e (Obj.mapFields (·.setIfInBounds 2 (.ref h)))}):wpAny C.M A (raiseStmt env (some (pure (.ref e))) none) Q E s:=by
 obtain ⟨bm,p⟩:=Xs.cls y
 obtain ⟨hC,hN,hni,T⟩:=p
 have hC:=X _ _ hC
 have hcB:(Value.ref (C.exA y)::bm).contains (.type "BaseException")=true:=by rw [List.contains_cons,T.hasType (b:=true) (by decide),Bool.or_true]
 unfold raiseStmt
 refine aC (aI ?_)
 obtain ⟨hp,g,dr,tk,os⟩:=s
 have he':hp.get? e=some {cls:=.ref (C.exA y),data:=.fields #[.ref t,.none,.none,.none,.bool false,.none]}:=he
 repeat (first | with_reducible refine wpAny_loadPart_at he' ?_ | with_reducible refine wpAny_loadPart_at hC ?_ | (with_reducible refine wpAny_isSubtype_exc hC ?_;rw [hcB]) | wp_step)
 exact raiseNew_under (s:=⟨hp,g,dr,tk,os⟩) hh hne he rfl (show 2 < 6 by decide) ho hdo h2 hE
noncomputable def HS (C:Cx) (d:Nat) (sc:Scope) (vars:List Str) (x:Ex) (b:List Stmt) (mb:M):Prop:=
 ∀(A:Around) (Γ:Fx) (ρ:dI) (σ:aN) (m:Lo) (s:Shared) (Q:Fl→Lo→aN→Prop) (X:Ex→Lo→aN→Prop) (a:Addr) (oe:Obj) (vs:Array Value),A.handled=some (.ref a)→Γ.Wf d→kG sc Γ.env→Γ.vars=vars→(∀x,Γ.env.kindOf x≠some .free)→Γ.vars.Nodup→
  cO C Γ ρ σ m s→s.heap.get? a=some oe→oe.data=.fields vs→(x≠.BadCommand→vs[2]? =some .none)→wpSs (wpCall d) mb m σ Q X→wpAny C.M A (execs b Γ.env) (PS C Γ ρ s Q) (PXS C Γ ρ s X) s
theorem HS_none {x k p q}:HS C d sc vars x [.Return (some (.Constant .none k p)) q] (.cons (.sR .cN) .nil):=fun A Γ ρ σ m s Q X a oe vs hA W S hv nf nd J hoe hd h2 q=>by
 refine execs_one ?_
 rw [arm_exec_Return]
 refine aC (fP ?_)
 exact aC (wpAny_Constant_none (aI ⟨ρ,σ,m,.ret .none,.refl _ _,.refl _ _ _ _,J,.ret .none,q⟩))
theorem HS_bool {x b k p q}:HS C d sc vars x [.Return (some (.Constant (.bool b) k p)) q] (.cons (.sR (.cB b)) .nil):=fun A Γ ρ σ m s Q X a oe vs hA W S hv nf nd J hoe hd h2 q=>by
 refine execs_one ?_
 rw [arm_exec_Return]
 refine aC (fP ?_)
 exact aC (wpAny_Constant_bool (aI ⟨ρ,σ,m,.ret (.bool _),.refl _ _,.refl _ _ _ _,J,.ret (.bool _),q⟩))
theorem HS_asg {x nm np bb kk cp ap i} (hi:o7 sc vars nm=some i):HS C d sc vars x [.Assign [.Name nm np] (.Constant (.bool bb) kk cp) ap] (.cons (.sA i (.cB bb)) .nil):=fun A Γ ρ σ m s Q X a oe vs hA W S hv nf nd J hoe hd h2 q=>by
 refine execs_one ?_
 rw [arm_exec_Assign]
 refine aC (fP ?_)
 refine aC (aI ?_)
 rw [if_neg (by decide)]
 refine aC (wpAny_Constant_bool ?_)
 refine aC (aI ?_)
 refine aC (bQ (jU (X:=Γ.X) J W.kind nd (hv▸(fF hi).2) (mF nf S (fF hi).1) (.bool bb)) (fun _ s₂ h=>?_) fun _ _ e=>e)
 exact aI (.nx (.refl _ _) h.1 h.2 q)
theorem HS_rse (O:C.Ok) (Xs:C.Excs) {x np tx kk cp ccp rp} (hg:gC sc k9=true) (hxb:x≠.BadCommand):HS C d sc vars x [.Raise (some (.Call (.Name k9 np) [.Constant (.str tx) kk cp] [] ccp)) none rp] (.cons (.sX .BadCommand (.cons .cS .nil)) .nil):=fun A Γ ρ σ m s Q X a oe vs hA W S hv nf nd J hoe hd h2 q=>by
 have hnone:=h2 hxb
 have hyB:look k9 exTab=some .BadCommand:=by decide+kernel
 obtain ⟨_,q⟩:_∧X .BadCommand m σ:=q
 refine execs_one ?_
 rw [arm_exec_Raise]
 refine aC (fP ?_)
 show wpAny _ _ (raiseStmt Γ.env (some (eval (.Call (.Name k9 np) [.Constant (.str tx) kk cp] [] ccp) Γ.env >>=fun v=>standAt rp >>=fun _=>pure v)) none) _ _ _
 rw [raise_eq]
 refine aC (aC ?_)
 show wpAny _ _ (do callWith ccp (←eval (.Name k9 np) Γ.env) [] (backTo ccp (starEach [.Constant (.str tx) kk cp] Γ.env)) []) _ _ _
 refine aC (wpAny_Name (glob_loadA O W J (S.glob _ hg) (Xs.name _ _ hyB) ?_) (dY (iJ hg)))
 refine callWith_K (J.kin O) (Xs.keep _) ?_
 show wpAny _ _ (spliced [(false,eval (.Constant (.str tx) kk cp) Γ.env)]) _ _ _
 rw [spliced]
 refine aC (Constant_str ?_)
 dsimp only [Bool.false_eq_true,if_false]
 refine aC (aI (aC (gN (aI (aI ?_)))))
 refine ⟨(J.toks _).kin O,call_exc Xs (s:={s with toks:=s.toks+1}) J.base (by simp) fun h' e t k hn he=>?_⟩
 refine aC (fP (aI ?_))
 have hne:a≠e:=fun q=>by rw [←q,hoe] at hn;cases hn
 have J₂:cO C Γ ρ σ m {s with heap:=h',toks:=s.toks+1}:=J.more k
 refine raise_under Xs (s:={s with heap:=h',toks:=s.toks+1}) hA hne (fun b o e=>k b o (J.base b o e)) he (k _ _ hoe) hd hnone ?_
 have t1:Turn Γ.F [e] h' (h'.update e (Obj.mapFields (·.setIfInBounds 2 (.ref a)))):=by
  have ko:∀b,b≠e→(h'.update e (Obj.mapFields (·.setIfInBounds 2 (.ref a)))).get? b=h'.get? b:=fun b hb=>Heap.get?_update_other _ _ (Ne.symm hb)
  refine ⟨fun b hb=>⟨_,by rw [bJ] at hb;subst hb;exact Heap.get?_update_self _ he rfl⟩,fun b o e' _ nl=>(ko b fun q=>nl (q▸.head _)).trans e',fun b hb o e'=>⟨o.slots,(ko b fun q=>?_).trans e'⟩⟩
  refine hide fun Gx hGx=>?_
  obtain ⟨o',e'',x⟩:=J₂.frm_odd hb
  refine hGx ?_
  have e2:h'.get? b=some o':=e''
  rw [q,he] at e2;cases e2
  exact x.2 _ rfl
 have k₁:Kp ρ Γ.F Γ.X s.heap h':=.of_keeps k
 have hn0:C.h₀.get? e=none:=J.live0.none hn
 refine ⟨ρ,σ,m,.BadCommand,.refl _ _,k₁.turn t1 (by intro b hb;rw [bJ] at hb;subst hb;exact hn),J₂.turn t1 (fun b hb=>?_),⟨e,_,_,rfl,hn,Heap.get?_update_self _ he rfl,rfl,rfl,⟨⟨.ref t,rfl⟩,fun q=>absurd rfl q⟩,.inl ⟨rfl,.inl rfl⟩⟩,q⟩
 rw [bJ] at hb;subst hb
 refine ⟨hn0,fun o e'=>?_⟩
 have e2:h'.get? b=some o:=e'
 rw [he] at e2;cases e2;exact ⟨_,rfl⟩
theorem wpG_Try {M:Model} {body:List Stmt} {h₀:ExceptHandler} {pos:Pos} {env:Env} {Q:Flow→Shared→Prop}
  (h:wpG M A (execs body env) Q (fun e s₁=>wpAny M A (noteFrame e env) (fun _ s₂=>wpAny M A (setFlight e none) (fun _ s₃=>wpAny M A (handleBy e env [h₀]) Q E s₃) E s₂) E s₁) s):wpG M A (exec (.Try body [h₀] [] [] pos) env) Q E s:=by
 rw [arm_exec_Try]
 refine bM ?_
 delta tryStmt
 refine wpG_yes rfl (aM (wpG_attempt (aO h (fun f s₁ h₁=>?_) fun e s₁ h₁=>?_)))
 ·cases f <;> exact aY h₁
 ·exact bV (aC (bQ h₁ (fun _ _ h₂=>wpAny_no rfl (aC (bQ h₂ (fun _ _ h₃=>wpAny_no rfl (wpAny_no rfl h₃)) fun _ _ x=>x))) fun _ _ x=>x))
theorem SS_Try (O:C.Ok) (Xs:C.Excs) {xn:Str} {np hp pos:Pos} {b:List Stmt} {st:Stmt} {h:List Stmt} {x:Ex} {mb mh:M} (hg:gC sc xn=true) (hx:look xn exTab=some x) (hth:HS C d sc vars x (st::h) mh) (hb:SSs C d sc vars b mb):
  SS C d sc vars (.Try b [.ExceptHandler (some (.Name xn np)) none (st::h) hp] [] [] pos) (.sTry mb x mh):=fun Γ r ρ σ m s Q X W hfr S hv nf nd J q=>by
 obtain ⟨L,hL⟩:=W.frame hfr
 refine wpG_Try (aO (hb Γ r ρ σ m s _ _ W hfr S hv nf nd J q) (fun _ _ h=>h) fun e s1 h1=>?_)
 refine pB J.live0 W.frames hfr hL h1 fun s2 h2=>?_
 refine oV (v:=none) J.live0 h2 (fun ⟨_,_,q⟩=>nomatch q) fun s3 h3=>?_
 obtain ⟨ρ3,σ3,m3,y,g3,k3,J3,⟨a,oe,vs,rfl,ha,he,hc,hd,⟨a0,hc2⟩,hf⟩,q3⟩:=h3
 have h3:PXP C Γ ρ s (fun z m σ=>z=y∧ifQ (wpSs (wpCall d) mh m · Q X) (X z m) (pC z x) σ) (fun o=>o=some (Option.elim (none:Option Addr) Value.none fun f=>rawInt f)) (.ref a) s3:=
  ⟨ρ3,σ3,m3,y,g3,k3,J3,⟨a,oe,vs,rfl,ha,he,hc,hd,⟨a0,hc2⟩,hf⟩,rfl,q3⟩
 refine wpAny_handleBy_cons (codeAny_handlers_test (wpAny_Name (glob_loadA O W J3 (S.glob _ hg) (Xs.name _ _ hx) ?_) (dY (iJ hg)))) (by intro q;cases q)
 have LT:Looks C.M s3.heap (typeOf (.ref a)) (.ref (C.exA y)):=by
  have:=Looks.ld (M:=C.M) (part:=none) he
  exact hc▸this.andThen .now
 refine (exm_one (J3.kin O) LT (Xs.hit y x)).here ?_
 cases hsub:pC y x with
 | true=>
  refine codeAny_handlers_suite (oV (v:=none) J.live0 h3 (fun q=>nomatch q) fun s4 h4=>?_)
  refine hide fun Gx hGx=>?_
  obtain ⟨ρ4,σ4,m4,z,g4,k4,J4,⟨a',oe',vs',ea,ha',he',hc',hd',⟨a0',hc2'⟩,hf'⟩,rfl,q4⟩:=h4
  refine hGx ?_
  cases ea
  rw [hsub] at q4
  have hx2:x≠.BadCommand→vs'[2]? =some .none:=fun hne=>hc2' (by rintro rfl;cases x <;> first | exact hne rfl | cases hsub)
  refine bQ (hth (Γ.A.mark (some (.ref a))) Γ ρ4 σ4 m4 s4 Q X a _ _ rfl W S hv nf nd J4 he' hd' hx2 q4) (fun fl s5 h5=>?_) fun e5 s5 h5=>?_
  ·exact h5.after g4 k4
  ·have h6:=(h5.after g4 k4).at (Γ.A.mark (some (.ref a)))
   refine noted_sound (Γ:=Γ.at (Γ.A.mark (some (.ref a)))) J.live0 W.frames hfr hL h6 fun s7 h7=>?_
   exact back_sound J.live0 hL (h7.unat.px fun o ⟨L',e1,e2⟩=>⟨L',e1,e2⟩) fun _ h=>h
 | false=>
  refine wpAny_handleBy_nil ?_
  unfold PySem.passOn
  rcases hf with ⟨_,q⟩ | ⟨T,oT,ts,fl,f1,f2,f3,f4,f5,f6,f7⟩
  ·cases q
  refine aC (gJ he hd f1 ?_)
  rw [if_neg (show ¬((Value.ref T==Value.none)=true) from by simp)]
  refine aC (oV (v:=Γ.env.frame) J.live0 h3 (fun q=>nomatch q) fun s4 h4=>?_)
  refine wpAny_throw ?_
  obtain ⟨ρ4,σ4,m4,z,g4,k4,J4,ex,rfl,q4⟩:=h4
  rw [hsub] at q4
  exact ⟨ρ4,σ4,m4,z,g4,k4,J4,ex.mono (fun _ o e=>⟨o,e⟩) fun o q=>.inr (.inr ⟨L,hL,by rw [hL] at q;exact q⟩),q4⟩
end
end Internal
end
section
namespace Internal
open PySem PySem.W PySem.Calls PyProof.Rows Builtin
section
variable {M:Model} {A:Around} {E:Value→Shared→Prop} {s:Shared} {env:Env}
theorem mM {out:Str} {x:Sem Value} {rest:List (Sem Value)} {Q:Value→Shared→Prop}
  (h:wpG M A x (fun v s₁=>∃y t,v=.str y t∧(out++y).length≤sizeLine∧wpG M A (joinParts (out++y) rest) Q E s₁) E s):wpG M A (joinParts out (x::rest)) Q E s:=by
 rw [joinParts]
 refine aM (aO h (fun v s₁ h₁=>?_) fun _ _ e=>e)
 obtain ⟨y,t,rfl,hz,hr⟩:=h₁
 have hz':¬(out.length+y.length > sizeLine):=by rw [←strLen_append];exact bK.mpr hz
 refine aM (aY ?_)
 show wpG M A (if out.length+y.length > sizeLine then _ else _) Q E s₁
 rw [if_neg hz']
 first | exact hr | exact aM (aY hr)
end
section
variable {C:Cx} {d:Nat} {sc sc':Scope} {vars:List Str} {Γ Γ':Fx} {ρ ρ' ρ₀:dI} {σ σ':aN} {m m' m₀:Lo} {s s' s₁ s0:Shared}
noncomputable def SJ (C:Cx) (d:Nat) (sc:Scope) (vars:List Str) (es:List Expr) (me:M):Prop:=
 ∀(Γ:Fx) (ρ:dI) (σ:aN) (m:Lo) (s:Shared) (out:Str) (Q:V→aN→Prop) (X:Ex→aN→Prop),Γ.Wf d→kG sc Γ.env→Γ.vars=vars→cO C Γ ρ σ m s→wpF (wpCall d) me m σ (fun σ=>Q .str σ) X→out.length+1000*es.length≤200000→
  wpG C.M Γ.A (joinParts out (evalEach es Γ.env)) (PQ C Γ ρ m s Q) (PX C Γ ρ m s X) s
theorem SJ_nil:SJ C d sc vars [] .nil:=fun Γ ρ σ m s out Q X W S hv J q hz=>bV (joinParts_nil (.tk J (.str _ _) q) (by rw [nJ];exact aA (aU _ _) (aA hz (by decide))))
theorem SJ_str {x k p r l} (hx:Nat.ble x.length 1000=true) (hr:SJ C d sc vars r l):SJ C d sc vars (.Constant (.str x) k p::r) (.cons .cS l):=fun Γ ρ σ m s out Q X W S hv J q hz=>by
 have hl:=bG hx
 have hz':(out++x).length+1000*r.length≤200000:=by rw [strLen_append,cZ];exact aA (aT (bG hx) _) hz
 show wpG _ _ (joinParts out (eval (.Constant (.str x) k p) Γ.env::evalEach r Γ.env)) _ _ _
 exact mM (bV (Constant_str ⟨x,_,rfl,by rw [nJ];exact aA (aU _ _) (aA hz' (by decide)),aO (hr Γ ρ σ m {s with toks:=s.toks+1} _ Q X W S hv (J.toks _) q hz') (fun _ _ h=>h) fun _ _ h=>h⟩))
noncomputable def wpFl (W:Wp) (l:M) (m:Lo) (σ:aN) (Q:aN→Prop) (X:Ex→aN→Prop) (a:M):Prop:=wpF W (.cons a l) m σ Q X
noncomputable def wpFr (W:Wp) (l:M) (m:Lo) (σ:aN) (Q:aN→Prop) (X:Ex→aN→Prop) (a:M):Prop:=cond (notS a) (wpE W a m σ (fun v σ=>intQ (fun i=>i.natAbs < 2 ^ 128∧wpF W l m σ Q X) v) X) (wpFl W l m σ Q X a)
theorem wpF_eq {W:Wp} {l:M} {m:Lo} {σ:aN} {Q:aN→Prop} {X:Ex→aN→Prop} (a:M):wpFl W l m σ Q X a=wpFr W l m σ Q X a:=by cases a <;> rfl
theorem wpF_val {a l:M} {W:Wp} {m:Lo} {σ:aN} {Q:aN→Prop} {X:Ex→aN→Prop} (hn:notS a=true) (q:wpF W (.cons a l) m σ Q X):wpE W a m σ (fun v σ=>intQ (fun i=>i.natAbs < 2 ^ 128∧wpF W l m σ Q X) v) X:=by
 have q:wpFl W l m σ Q X a:=q
 rw [wpF_eq,wpFr,hn] at q;exact q
theorem SJ_val {e p r a l} (hn:notS a=true) (h:SE C d sc vars e a) (hr:SJ C d sc vars r l):SJ C d sc vars (.FormattedValue e (-1) none p::r) (.cons a l):=fun Γ ρ σ m s out Q X W S hv J q hz=>by
 show wpG _ _ (joinParts out (eval (.FormattedValue e (-1) none p) Γ.env::evalEach r Γ.env)) _ _ _
 refine mM ?_
 rw [arm_eval_FormattedValue]
 refine aM (aO (h Γ ρ σ m s _ X W S hv J (wpF_val hn q)) (fun v s₁ h=>?_) fun _ _ h=>h)
 obtain ⟨ρ₁,σ₁,v₁,g₁,k₁,J₁,r₁,q₁⟩:=h
 obtain ⟨i,rfl,q₁⟩:=nT q₁
 obtain ⟨t,rfl⟩:=r₁.inv_int
 have hl:=small_text q₁.1
 refine bM ?_
 show wpG _ _ (do let v'←holding [Value.int i t] (pure (Value.int i t));formatField v' Str.empty) _ _ s₁
 refine aM (bL (aY (bV (formatField_int_small (small_log q₁.1) ⟨_,_,rfl,?_,?_⟩))))
 ·rw [strLen_append,nJ];exact aA (fY (aA (aU _ _) hz) hl) (by decide)
 ·have hz':(out++Str.ofString (toString i)).length+1000*r.length≤200000:=by rw [strLen_append,cZ];exact aA (aT (aA hl (by decide:(50:Nat)≤1000)) _) hz
  exact aO (hr Γ ρ₁ σ₁ m {s₁ with toks:=s₁.toks+1+1} _ Q X W S hv (J₁.toks _) q₁.2 hz') (fun _ _ h=>PQ.after g₁ k₁ h) fun _ _ h=>PX.after g₁ k₁ h
theorem SE_fstr {vs pos l} (h1:Nat.ble 2 vs.length=true) (h2:Nat.ble vs.length 100=true) (h:SJ C d sc vars vs l):SE C d sc vars (.JoinedStr vs pos) (.fstr l):=fun Γ ρ σ m s Q X W S hv J q=>by
 have h1:=bG h1
 have h2:=bG h2
 match vs,h1 with
 | v₁::v₂::rest,_=>
  show wpG _ _ (joinParts Str.empty (evalEach (v₁::v₂::rest) Γ.env)) _ _ _
  exact h Γ ρ σ m s Str.empty Q X W S hv J q (by
   have:Str.empty.length=0:=rfl
   rw [this,fL];exact aA (gU 1000 h2) (by decide))
theorem memS_pct {x:Str} (h:memS x pctTexts=true):x= "no command is of kind %d" ∨x= "no reply has code %d" :=by
 exact (gX.mp h).imp sEq_eq fun h=>(gX.mp h).elim sEq_eq bfE
theorem SL_pct {x k p r bp a} (hx:memS x pctTexts=true) (hn:notS a=true) (h:SE C d sc vars r a):SL C d sc vars [.BinOp (.Constant (.str x) k p) .Mod r bp] (.cons (.fstr (.cons a .nil)) .nil):=⟨fun _ _=>rfl,fun Γ ρ σ m s pos Q X W S hv J q=>by
 refine wpG_items_cons (wpG_BinOp (bV (Constant_str ?_))) rfl
 have q':wpF (wpCall d) (.cons a .nil) m σ (fun σ=>Q [.str] σ) X:=q
 refine aO (h Γ ρ σ m {s with toks:=s.toks+1} _ X W S hv (J.toks _) (wpF_val hn q')) (fun v s₁ h=>?_) fun _ _ h=>h
 obtain ⟨ρ₁,σ₁,v₁,g₁,k₁,J₁,r₁,q₁⟩:=h
 obtain ⟨i,rfl,q₁⟩:=nT q₁
 obtain ⟨t,rfl⟩:=r₁.inv_int
 refine mod_any (memS_pct hx) q₁.1 fun T t' k=>wpG_items_nil ?_
 exact ⟨ρ₁,σ₁,[.str],g₁,k₁,J₁.toks k,.cons (.str T t') .nil,q₁.2⟩⟩
theorem pH {e me} (hq:∀W m σ whole Q X,wpI W me m σ whole Q X=whole Q) (h:SE C d sc vars e me):SI C d sc vars e me:=fun Γ ρ σ m s Q X W S hv J q=>by
 rw [hq] at q
 refine aO (h Γ ρ σ m s Q X W S hv J q) (fun v s' h=>?_) fun _ _ h=>h
 obtain ⟨ρ₁,σ₁,v₁,g₁,k₁,J₁,r₁,q₁⟩:=h
 exact ⟨ρ₁,σ₁,v₁,g₁,k₁,J₁,.val r₁,q₁⟩
theorem rgL_ex {Q:V→aN→Prop} {σ:aN}:∀{vs:List V},rgL Q vs σ→∃i,vs=[.int i]∧(0≤i∧i≤lim)∧Q (.rng i) σ
 | [],h=>h.elim
 | [v],h=>let ⟨i,e,q⟩:=nT h;⟨i,e▸rfl,q⟩
 | _::_::_,h=>h.elim
theorem SI_range (O:C.Ok) (B:C.Blts) {x p as pos l} (hg:gC sc x=true) (hf:look x btTab=some .range) (h:SL C d sc vars as l):SI C d sc vars (.Call (.Name x p) as [] pos) (.blt .range l):=fun Γ ρ σ m s Q X W S hv J q=>by
 obtain rfl:x=Bt.range.name:=mY hf
 refine wpG_Call (lF (blt_load O W J (S.glob _ hg) (B .range).1 (B .range).2 ?_) (dY (iJ hg))) rfl
 refine callWith_ty h W S hv J q fun vs s₁ h=>?_
 obtain ⟨ρ₁,σ₁,v₁,g₁,k₁,J₁,r₁,q₁⟩:=h
 obtain ⟨i,rfl,hi,q₁⟩:=rgL_ex q₁
 obtain ⟨x,rfl,rx⟩:=r₁.one
 obtain ⟨t,rfl⟩:=rx.inv_int
 refine bV (call_range_1 ?_)
 exact ⟨ρ₁,σ₁,.rng i,g₁,k₁.trans g₁ (.push _),J₁.push _ _,.rng ⟨_,_,_,Heap.get?_push_size _ rfl⟩ hi.1 hi.2,q₁⟩
end
end Internal
end
section
namespace Internal
open PySem PySem.W PySem.Calls PyProof.Rows Builtin
structure Hy (C:Cx) (d:Nat):Prop where
 O:C.Ok
 N:C.Names
 B:C.Blts
 X:C.Excs
 H:kE C d
structure EOk (C:Cx) (d:Nat) (sc:Scope) (vars:List Str) (e:Expr) (me:M):Prop where
 se:SE C d sc vars e me
 st:ST C d sc vars e me
 si:SI C d sc vars e me
structure RE (sc:Scope) (vars:List Str) (e:Expr) where
 m:M
 he:HE e
 nn:m≠.nil
 ok:∀{C d},Hy C d→EOk C d sc vars e m
structure RX (P:Cx→Nat→M→Prop) where
 m:M
 ok:∀{C d},Hy C d→P C d m
noncomputable abbrev RL (sc:Scope) (vars:List Str) (es:List Expr):=RX fun C d m=>SL C d sc vars es m
noncomputable abbrev RB (sc:Scope) (vars:List Str) (op:BoolOp) (es:List Expr):=RX fun C d m=>SA C d sc vars op es m
noncomputable abbrev RO (sc:Scope) (vars:List Str) (e:Option Expr):=RX fun C d m=>SO C d sc vars e m
noncomputable abbrev RJ (sc:Scope) (vars:List Str) (es:List Expr):=RX fun C d m=>SJ C d sc vars es m
noncomputable abbrev RI (sc:Scope) (vars:List Str) (es:List Expr):=RX fun C d m=>Ifs C d sc vars es m
noncomputable def oS {α:Type} (x:Option α):Option {a:α // x=some a}:=match x with
 | some a=>some ⟨a,rfl⟩
 | none=>none
noncomputable def bS (b:Bool):Option (PLift (b=true)):=match b with
 | true=>some ⟨rfl⟩
 | false=>none
noncomputable def plM (a:M):Bool:=Nat.ble a.ix 8 || (Nat.ble 14 a.ix && Nat.ble a.ix 24 && !Nat.beq a.ix 22)
noncomputable def plL (a:M) (W:Wp) (m:Lo) (σ:aN) (w:(V→aN→Prop)→Prop) (Q:V→aN→Prop) (k:Bool→aN→Prop) (X:Ex→aN→Prop) (Y:Ex→aN→Prop):Prop×Prop:=(wpI W a m σ w Q X,wpT W a m σ w k Y)
noncomputable def plR (_:M) (_:Wp) (_:Lo) (_:aN) (w:(V→aN→Prop)→Prop) (Q:V→aN→Prop) (k:Bool→aN→Prop) (_:Ex→aN→Prop) (_:Ex→aN→Prop):Prop×Prop:=(w Q,w fun v σ=>l7 v σ fun b=>k b σ)
noncomputable def plC (a:M):=cond (plM a) (plR a) (plL a)
theorem plL_eq (a:M):plL a=plC a:=by cases a <;> rfl
theorem plL_R {a:M} (h:plM a=true):plL a=plR a:=by rw [plL_eq,plC,h];rfl
noncomputable def vaE (e:Expr):Bool:=!(Nat.beq e.ctorIdx 0 || Nat.beq e.ctorIdx 3 || Nat.beq e.ctorIdx 5 || Nat.beq e.ctorIdx 15)
noncomputable def vaR (e:Expr) (_:Env) (whole:Sem Value):Sem Bool:=do
 let v←whole
 standAt e.pos
 holding [v] (truthy v)
noncomputable def vaC (e:Expr):=cond (vaE e) (vaR e) (isTrue e)
theorem va_eq (e:Expr):isTrue e=vaC e:=by cases e <;> first | rfl | (rename UnaryOp=>o;cases o <;> rfl)
theorem va_of {e:Expr} (h:vaE e=true):isTrue e=vaR e:=by rw [va_eq,vaC,h];rfl
section
variable {sc sc':Scope} {vars:List Str} {e l r c a b o i:Expr} {p:Pos} {es as:List Expr}
theorem EOk.val {C:Cx} {d:Nat} {m:M} (hm:plM m=true) (hv:isTrue e=vaR e) (se:SE C d sc vars e m):EOk C d sc vars e m:=
 ⟨se,lJ (fun env whole=>congrFun (congrFun hv env) whole) (fun W m' σ w k X=>congrArg (fun f=>(f W m' σ w (fun _ _=>True) k X X).2) (plL_R hm)) se,pH (fun W m' σ w Q X=>congrArg (fun f=>(f W m' σ w Q (fun _ _=>True) X X).1) (plL_R hm)) se⟩
theorem oU {m:M} (h:Nat.beq m.ix 25=false):m≠.nil:=fun q=>by rw [q] at h;exact bfE h.symm
structure VF (e:Expr):Prop where
 he:HE e
 hv:isTrue e=vaR e
theorem VF.of (h:(hdB e && vaE e)=true):VF e:=by
 rw [hV] at h
 exact ⟨.of h.1,va_of h.2⟩
noncomputable def RE.val (m:M) (hm:plM m=true) (hn:Nat.beq m.ix 25=false) (f:VF e) (se:∀{C d},Hy C d→SE C d sc vars e m):RE sc vars e:=⟨m,f.he,oU hn,fun H=>.val hm f.hv (se H)⟩
noncomputable def tConst (sc:Scope) (vars:List Str) (c:Const) (k:Nat) (p:Pos):Option (RE sc vars (.Constant c k p)):=match c with
 | .none=>some (.val .cN rfl rfl (.of rfl) fun _=>SE_none)
 | .bool b=>some (.val (.cB b) rfl rfl (.of rfl) fun _=>SE_bool)
 | .int i=>some (.val (.cI i) rfl rfl (.of rfl) fun _=>SE_int)
 | .str s=>some (.val .cS rfl rfl (.of rfl) fun _=>SE_str)
 | .bytes b=>(bS (Nat.ble b.length 1048576)).map fun h=>.val (.cY (b.map (·.toNat))) rfl rfl (.of rfl) fun _=>SE_bytes (bG h.down)
 | _=>none
noncomputable def tName (sc:Scope) (vars:List Str) (x:Str) (p:Pos):Option (RE sc vars (.Name x p)):=match bS (gC sc x) with
 | some h=>(oS (idxOf x (globTab.map (·.1)))).map fun k=>.val (.glob k.1) rfl rfl (.of rfl) fun H=>SE_glob H.O h.down k.2
 | none=>(oS (o7 sc vars x)).map fun k=>.val (.loc k.1) rfl rfl (.of rfl) fun _=>SE_loc k.2
noncomputable def tOp (op:Operator):Option {o:BOp // op=opOf o}:=match op with
 | .Add=>some ⟨.add,rfl⟩ | .Sub=>some ⟨.sub,rfl⟩ | .Mult=>some ⟨.mul,rfl⟩ | .FloorDiv=>some ⟨.fdiv,rfl⟩ | .Mod=>some ⟨.mod,rfl⟩ | .Pow=>some ⟨.pow,rfl⟩
 | .BitAnd=>some ⟨.band,rfl⟩ | .BitOr=>some ⟨.bor,rfl⟩ | .LShift=>some ⟨.shl,rfl⟩ | .RShift=>some ⟨.shr,rfl⟩ | _=>none
noncomputable def tCmp (op:CmpOp):Option {o:COp // op=cmpOf o}:=match op with
 | .Eq=>some ⟨.eq,rfl⟩ | .NotEq=>some ⟨.ne,rfl⟩ | .Lt=>some ⟨.lt,rfl⟩ | .LtE=>some ⟨.le,rfl⟩ | .Gt=>some ⟨.gt,rfl⟩ | .GtE=>some ⟨.ge,rfl⟩ | .Is=>some ⟨.is,rfl⟩ | .IsNot=>some ⟨.isNot,rfl⟩
 | _=>none
noncomputable def tAug (op:Operator):Option {o:BOp // Aug op o}:=match op with
 | .Add=>some ⟨.add,.add⟩ | .RShift=>some ⟨.shr,.shr⟩ | .BitOr=>some ⟨.bor,.or⟩ | _=>none
noncomputable def rBin {op:Operator} (h:{o:BOp // op=opOf o}) (x:RE sc vars l) (y:RE sc vars r):RE sc vars (.BinOp l op r p):=
 .val (.bin h.1 x.m y.m) rfl rfl (.of rfl) fun H=>SE_bin h.2 (x.ok H).se (y.ok H).se
noncomputable def rUn {op:UnaryOp} (x:RE sc vars a):Option (RE sc vars (.UnaryOp op a p)):=match op with
 | .USub=>some (.val (.neg x.m) rfl rfl ⟨.of rfl,rfl⟩ fun H=>SE_neg (x.ok H).se)
 | .Not=>some ⟨.not x.m,.of rfl,oU rfl,fun H=>⟨fun _ _ _ _ _ _ _ _ _ _ _ q=>q.elim,ST_not (x.ok H).st,fun _ _ _ _ _ _ _ _ _ _ _ q=>q.elim⟩⟩
 | _=>none
noncomputable def rCmp {op:CmpOp} (h:{o:COp // op=cmpOf o}) (x:RE sc vars l) (y:RE sc vars r):RE sc vars (.Compare l [op] [r] p):=
 ⟨.cmp h.1 x.m y.m,.of rfl,oU rfl,fun H=>have se:=SE_cmp h.2 y.he (x.ok H).se (y.ok H).se;⟨se,ST_cmp h.2 y.he (x.ok H).se (y.ok H).se,pH (fun _ _ _ _ _ _=>rfl) se⟩⟩
noncomputable def rIfe (x:RE sc vars c) (y:RE sc vars a) (z:RE sc vars b):RE sc vars (.IfExp c a b p):=
 ⟨.ife x.m y.m z.m,.of rfl,oU rfl,fun H=>have se:=SE_ife (x.ok H).st (y.ok H).se (z.ok H).se;⟨se,fun _ _ _ _ _ _ _ _ _ _ _ q=>q.elim,pH (fun _ _ _ _ _ _=>rfl) se⟩⟩
noncomputable def rAttr {x:Str} (hb:gS o=true) (n:{n:At // look x atTab=some n}) (y:RE sc vars o):RE sc vars (.Attribute o x p):=
 .val (.attr y.m n.1) rfl rfl (.of rfl) fun H=>SE_attr H.O hb n.2 (y.ok H).se
noncomputable def rIdx (x:RE sc vars o) (y:RE sc vars i):RE sc vars (.Subscript o i p):=.val (.idx x.m y.m) rfl rfl (.of rfl) fun H=>SE_idx (x.ok H).se (y.ok H).se
noncomputable def rSlc {lo hi:Option Expr} {q:Pos} (x:RE sc vars o) (y:RO sc vars lo) (z:RO sc vars hi):RE sc vars (.Subscript o (.Slice lo hi none q) p):=.val (.slc x.m y.m z.m) rfl rfl (.of rfl) fun H=>SE_slc (x.ok H).se (y.ok H) (z.ok H)
noncomputable def TE:Type:=∀(sc:Scope) (vars:List Str) (e:Expr),Option (RE sc vars e)
noncomputable def tO (T:TE) (e:Option Expr):Option (RO sc vars e):=match e with
 | none=>some ⟨.nil,fun _=>SO_none⟩
 | some e=>(T sc vars e).map fun x=>⟨x.m,fun H=>SO_some (x.ok H).se x.nn⟩
noncomputable def rCons (x:RE sc vars e) (y:RL sc vars es):RL sc vars (e::es):=⟨.cons x.m y.m,fun H=>SL_cons x.he (x.ok H).se (y.ok H)⟩
noncomputable def tL (T:TE) (sc:Scope) (vars:List Str):(es:List Expr)→Option (RL sc vars es)
 | []=>some ⟨.nil,fun _=>SL_nil⟩
 | e::r=>(T sc vars e).bind fun x=>(tL T sc vars r).map fun y=>rCons x y
noncomputable def rB1 (op:BoolOp) (x:RE sc vars e):RB sc vars op [e]:=match op with
 | .And=>⟨x.m,fun H=>SA_and_one (x.ok H).st⟩
 | .Or=>⟨x.m,fun H=>SA_or_one (x.ok H).st⟩
noncomputable def rB2 (op:BoolOp) (x:RE sc vars e) (y:RB sc vars op es):RB sc vars op (e::es):=match op,y with
 | .And,y=>⟨.and x.m y.m,fun H=>SA_and (x.ok H).st (y.ok H)⟩
 | .Or,y=>⟨.or x.m y.m,fun H=>SA_or (x.ok H).st (y.ok H)⟩
noncomputable def tB (T:TE) (sc:Scope) (vars:List Str) (op:BoolOp):(es:List Expr)→Option (RB sc vars op es)
 | []=>none
 | e::r=>(T sc vars e).bind fun x=>match r with
  | []=>some (rB1 op x)
  | _::_=>(tB T sc vars op _).map fun y=>rB2 op x y
noncomputable def rBo (op:BoolOp) (x:RB sc vars op es):Option (RE sc vars (.BoolOp op es p)):=match x with
 | ⟨.and a b,ok⟩=>some ⟨.and a b,.of rfl,oU rfl,fun H=>⟨fun _ _ _ _ _ _ _ _ _ _ _ q=>q.elim,ST_bool (ok H),fun _ _ _ _ _ _ _ _ _ _ _ q=>q.elim⟩⟩
 | ⟨.or a b,ok⟩=>some ⟨.or a b,.of rfl,oU rfl,fun H=>⟨fun _ _ _ _ _ _ _ _ _ _ _ q=>q.elim,ST_bool (ok H),fun _ _ _ _ _ _ _ _ _ _ _ q=>q.elim⟩⟩
 | _=>none
noncomputable def rMeth {x:Str} {ap:Pos} (hb:gS o=true) (h20:Nat.ble as.length 20=true) (hp:Nat.beq ap.endLine p.line=true) (n:{n:Mt // look x mtTab=some n}) (y:RE sc vars o) (z:RL sc vars as):RE sc vars (.Call (.Attribute o x ap) as [] p):=
 .val (.meth y.m n.1 z.m) rfl rfl (.of rfl) fun H=>SE_meth H.O H.N H.H hb h20 hp n.2 (y.ok H).se (z.ok H)
noncomputable def rBlt {x:Str} {np:Pos} (hg:gC sc x=true) (f:Bt) (hf:look x btTab=some f) (z:RL sc vars as):RE sc vars (.Call (.Name x np) as [] p):=match f,hf with
 | .range,hf=>⟨.blt .range z.m,.of rfl,oU rfl,fun H=>have se:=SE_blt H.O H.B hg hf (z.ok H);⟨se,lJ (fun _ _=>rfl) (fun _ _ _ _ _ _=>rfl) se,SI_range H.O H.B hg hf (z.ok H)⟩⟩
 | .len,hf=>⟨.blt .len z.m,.of rfl,oU rfl,fun H=>have se:=SE_blt H.O H.B hg hf (z.ok H);⟨se,lJ (fun _ _=>rfl) (fun _ _ _ _ _ _=>rfl) se,pH (fun _ _ _ _ _ _=>rfl) se⟩⟩
 | .bytes,hf=>⟨.blt .bytes z.m,.of rfl,oU rfl,fun H=>have se:=SE_blt H.O H.B hg hf (z.ok H);⟨se,lJ (fun _ _=>rfl) (fun _ _ _ _ _ _=>rfl) se,pH (fun _ _ _ _ _ _=>rfl) se⟩⟩
 | .tuple,hf=>⟨.blt .tuple z.m,.of rfl,oU rfl,fun H=>have se:=SE_blt H.O H.B hg hf (z.ok H);⟨se,lJ (fun _ _=>rfl) (fun _ _ _ _ _ _=>rfl) se,pH (fun _ _ _ _ _ _=>rfl) se⟩⟩
 | .sorted,hf=>⟨.blt .sorted z.m,.of rfl,oU rfl,fun H=>have se:=SE_blt H.O H.B hg hf (z.ok H);⟨se,lJ (fun _ _=>rfl) (fun _ _ _ _ _ _=>rfl) se,pH (fun _ _ _ _ _ _=>rfl) se⟩⟩
 | .min,hf=>⟨.blt .min z.m,.of rfl,oU rfl,fun H=>have se:=SE_blt H.O H.B hg hf (z.ok H);⟨se,lJ (fun _ _=>rfl) (fun _ _ _ _ _ _=>rfl) se,pH (fun _ _ _ _ _ _=>rfl) se⟩⟩
 | .bytearray,hf=>⟨.blt .bytearray z.m,.of rfl,oU rfl,fun H=>have se:=SE_blt H.O H.B hg hf (z.ok H);⟨se,lJ (fun _ _=>rfl) (fun _ _ _ _ _ _=>rfl) se,pH (fun _ _ _ _ _ _=>rfl) se⟩⟩
noncomputable def rCall {x:Str} {np:Pos} (hg:gC sc x=true) (z:RL sc vars as):Option (RE sc vars (.Call (.Name x np) as [] p)):=match oS (look x fnTab) with
 | some f=>some (.val (.call f.1 z.m) rfl rfl (.of rfl) fun H=>SE_call H.O H.N H.H hg f.2 (z.ok H))
 | none=>match oS (look x clsTab) with
  | some c=>some (.val (.new c.1 z.m) rfl rfl (.of rfl) fun H=>SE_new H.O H.N H.H hg c.2 (z.ok H))
  | none=>(oS (look x btTab)).map fun b=>rBlt hg b.1 b.2 z
noncomputable def tCall (T:TE) (f:Expr) (as:List Expr) (p:Pos):Option (RE sc vars (.Call f as [] p)):=match view f with
 | .attr o x ap h=>(bS (gS o)).bind fun h1=>(bS (Nat.ble as.length 20)).bind fun h2=>(bS (Nat.beq ap.endLine p.line)).bind fun h3=>(oS (look x mtTab)).bind fun n=>(T sc vars o).bind fun y=>(tL T sc vars as).map fun z=>h▸rMeth h1.down h2.down h3.down n y z
 | .name x np h=>(bS (gC sc x)).bind fun g=>(tL T sc vars as).bind fun z=>h▸rCall g.down z
 | _=>none
noncomputable def tNames:(es:List Expr)→Option {xs:List Str // Names es xs}
 | []=>some ⟨[],.nil⟩
 | e::r=>match view e with
  | .name x p h=>(tNames r).map fun xs=>⟨x::xs.1,h▸.cons xs.2⟩
  | _=>none
noncomputable def tTg (e:Expr):Option {y:List Str×Nat // Tg e y.1 y.2}:=match view e with
 | .name x p h=>some ⟨([x],0),h▸.name⟩
 | .tuple es k p h=>(tNames es).map fun xs=>⟨(xs.1,xs.1.length),h▸.tup xs.2⟩
 | _=>none
noncomputable def tVars (sc:Scope) (vars:List Str):(xs:List Str)→Option {is:List Nat // kB sc vars xs is}
 | []=>some ⟨[],.nil⟩
 | x::r=>(oS (o7 sc vars x)).bind fun i=>(tVars sc vars r).map fun is=>⟨i.1::is.1,.cons i.2 is.2⟩
noncomputable def tI (T:TE) (sc:Scope) (vars:List Str) (es:List Expr):Option (RI sc vars es):=match es with
 | []=>some ⟨.nil,fun _=>.nil⟩
 | [e]=>(T sc vars e).map fun x=>⟨.cons x.m .nil,fun H=>.one (x.ok H).st⟩
 | _=>none
structure RCm (sc:Scope) (vars:List Str) (sc':Scope) (elt tg it:Expr) (ifs:List Expr) where
 xs:List Str
 k:Nat
 tgo:Tg tg xs k
 ok:nH sc sc' xs
 caps:List Nat
 cap:kB sc vars (bO sc') caps
 elt:RE sc' (xs++bO sc') elt
 it:RE sc vars it
 ifs:RI sc' (xs++bO sc') ifs
noncomputable def tC (T:TE) (sc:Scope) (vars:List Str) (sc':Scope) (elt tg it:Expr) (ifs:List Expr):Option (RCm sc vars sc' elt tg it ifs):=
 (tTg tg).bind fun y=>(bS (compOk sc sc' y.1.1)).bind fun h=>(tVars sc vars (bO sc')).bind fun cs=>(T sc' (y.1.1++bO sc') elt).bind fun a=>(T sc vars it).bind fun b=>(tI T sc' (y.1.1++bO sc') ifs).map fun c=>⟨y.1.1,y.1.2,y.2,compOk_some h.down,cs.1,cs.2,a,b,c⟩
noncomputable def rComp {tg it elt:Expr} {ifs:List Expr} (x:RCm sc vars sc' elt tg it ifs):RE sc vars (.ListComp elt [⟨tg,it,ifs,0⟩] sc' p):=
 .val (.comp x.elt.m x.k x.it.m x.ifs.m x.caps) rfl rfl (.of rfl) fun H=>SE_comp x.ok x.tgo (x.ifs.ok H) (x.elt.ok H).se x.cap x.it.he (x.it.ok H).si
noncomputable def oneGen (gs:List Comprehension):Option {g:Expr×Expr×List Expr // gs=[⟨g.1,g.2.1,g.2.2,0⟩]}:=match gs with
 | [⟨tg,it,ifs,0⟩]=>some ⟨(tg,it,ifs),rfl⟩
 | _=>none
noncomputable def tComp (T:TE) (elt:Expr) (gs:List Comprehension) (sc':Scope) (p:Pos):Option (RE sc vars (.ListComp elt gs sc' p)):=
 (oneGen gs).bind fun g=>(tC T sc vars sc' elt g.1.1 g.1.2.1 g.1.2.2).map fun x=>g.2▸rComp x
noncomputable def rJ2 {a:Expr} (x:RE sc vars a) (hn:notS x.m=true) (y:RJ sc vars es):RJ sc vars (.FormattedValue a (-1) none p::es):=⟨.cons x.m y.m,fun H=>SJ_val hn (x.ok H).se (y.ok H)⟩
noncomputable def noSpec (c:Int) (f:Option Expr):Option (PLift (c= -1∧f=none)):=match decEq c (-1),f with
 | .isTrue h,none=>some ⟨h,rfl⟩
 | _,_=>none
noncomputable def tJ (T:TE) (sc:Scope) (vars:List Str):(es:List Expr)→Option (RJ sc vars es)
 | []=>some ⟨.nil,fun _=>SJ_nil⟩
 | e::r=>(tJ T sc vars r).bind fun y=>match view e with
  | .const c k p h=>(match c,h with
   | .str x,h=>(bS (Nat.ble x.length 1000)).map fun z=>⟨.cons .cS y.m,fun H=>h▸SJ_str z.down (y.ok H)⟩
   | _,_=>none)
  | .fmt a c f p h=>(noSpec c f).bind fun z=>(T sc vars a).bind fun x=>(bS (notS x.m)).map fun hn=>h▸z.down.1▸z.down.2▸rJ2 x hn.down y
  | _=>none
noncomputable def tFs (T:TE) (es:List Expr) (p:Pos):Option (RE sc vars (.JoinedStr es p)):=
 (bS (Nat.ble 2 es.length)).bind fun h1=>(bS (Nat.ble es.length 100)).bind fun h2=>(tJ T sc vars es).map fun y=>.val (.fstr y.m) rfl rfl (.of rfl) fun H=>SE_fstr h1.down h2.down (y.ok H)
noncomputable def tSub (T:TE) (o i:Expr) (p:Pos):Option (RE sc vars (.Subscript o i p)):=(T sc vars o).bind fun x=>match view i with
 | .slice lo hi st q h=>(match st,h with
  | none,h=>(tO T lo).bind fun y=>(tO T hi).map fun z=>h▸rSlc x y z
  | some _,_=>none)
 | _=>(T sc vars i).map fun y=>rIdx x y
noncomputable def tE1 (T:TE):TE:=fun sc vars e=>match view e with
 | .boolop op es p h=>(tB T sc vars op es).bind fun x=>h▸rBo op x
 | .binop l op r p h=>(tOp op).bind fun o=>(T sc vars l).bind fun x=>(T sc vars r).map fun y=>h▸rBin o x y
 | .unop op a p h=>(T sc vars a).bind fun x=>h▸rUn x
 | .ife c a b p h=>(T sc vars c).bind fun x=>(T sc vars a).bind fun y=>(T sc vars b).map fun z=>h▸rIfe x y z
 | .comp elt gs sc' p h=>h▸tComp T elt gs sc' p
 | .cmp l ops rs p h=>(match ops,rs,h with
  | [op],[r],h=>(tCmp op).bind fun o=>(T sc vars l).bind fun x=>(T sc vars r).map fun y=>h▸rCmp o x y
  | _,_,_=>none)
 | .call f as kw p h=>(match kw,h with
  | [],h=>h▸tCall T f as p
  | _::_,_=>none)
 | .joined es p h=>h▸tFs T es p
 | .const c k p h=>h▸tConst sc vars c k p
 | .attr o x p h=>(bS (gS o)).bind fun hb=>(oS (look x atTab)).bind fun n=>(T sc vars o).map fun y=>h▸rAttr hb.down n y
 | .sub o i p h=>h▸tSub T o i p
 | .name x p h=>h▸tName sc vars x p
 | .list es p h=>(tL T sc vars es).map fun y=>h▸.val (.lst y.m) rfl rfl (.of rfl) fun H=>SE_lst (y.ok H)
 | .tuple es k p h=>(tL T sc vars es).map fun y=>h▸.val (.tup y.m) rfl rfl (.of rfl) fun H=>SE_tup (y.ok H)
 | _=>none
noncomputable def tE:Nat→TE
 | 0=>fun _ _ _=>none
 | n+1=>tE1 (tE n)
end
end Internal
end
section
namespace Internal
open PySem PySem.W PySem.Calls PyProof.Rows Builtin
section
variable {sc sc':Scope} {vars:List Str} {e t c it o i r a f:Expr} {p np cp hp q:Pos} {as:List Expr} {b b' ss:List Stmt} {st:Stmt} {x:Str} {y:Ex}
noncomputable abbrev RS (sc:Scope) (vars:List Str) (st:Stmt):=RX fun C d m=>SS C d sc vars st m
noncomputable abbrev RSs (sc:Scope) (vars:List Str) (ss:List Stmt):=RX fun C d m=>SSs C d sc vars ss m
noncomputable abbrev RH (sc:Scope) (vars:List Str) (y:Ex) (b:List Stmt):=RX fun C d m=>HS C d sc vars y b m
noncomputable def TS (sc:Scope) (vars:List Str):Type:=∀st:Stmt,Option (RS sc vars st)
noncomputable def tSs (T:TS sc vars):(ss:List Stmt)→Option (RSs sc vars ss)
 | []=>some ⟨.nil,fun _=>SSs_nil⟩
 | s::r=>(T s).bind fun x=>(tSs T r).map fun y=>⟨.cons x.m y.m,fun H=>SSs_cons (x.ok H) (y.ok H)⟩
noncomputable def rAN (i:{i:Nat // o7 sc vars x=some i}) (hc:isComp e=false) (y:RE sc vars e):RS sc vars (.Assign [.Name x np] e p):=⟨.sA i.1 y.m,fun H=>SS_A i.2 y.he hc (y.ok H).se⟩
noncomputable def rAC {elt tg it:Expr} {ifs:List Expr} (i:{i:Nat // o7 sc vars x=some i}) (z:RCm sc vars sc' elt tg it ifs):RS sc vars (.Assign [.Name x np] (.ListComp elt [⟨tg,it,ifs,0⟩] sc' cp) p):=
 ⟨.sA i.1 (.comp z.elt.m z.k z.it.m z.ifs.m z.caps),fun H=>SS_Acomp i.2 z.ok z.tgo (z.ifs.ok H) (z.elt.ok H).se z.cap z.it.he (z.it.ok H).si⟩
noncomputable def rAT {ts:List Expr} {k:Nat} (xs:{xs:List Str // Names ts xs}) (is:{is:List Nat // kB sc vars xs.1 is}) (hn:notTuple e=true) (y:RE sc vars e):RS sc vars (.Assign [.Tuple ts k np] e p):=⟨.sT is.1 y.m,fun H=>SS_T xs.2 is.2 y.he hn (y.ok H).se⟩
noncomputable def rAA (n:{n:At // look x atTab=some n}) (z:RE sc vars o) (y:RE sc vars e):RS sc vars (.Assign [.Attribute o x np] e p):=⟨.sAt z.m n.1 y.m,fun H=>SS_At H.O n.2 y.he (y.ok H).se (z.ok H).se⟩
noncomputable def rAI (z:RE sc vars o) (w:RE sc vars i) (y:RE sc vars e):RS sc vars (.Assign [.Subscript o i np] e p):=⟨.sIx z.m w.m y.m,fun H=>SS_Ix y.he (y.ok H).se (z.ok H).se (w.ok H).se⟩
noncomputable def tAN (T:TE) (x:Str) (np:Pos) (e:Expr) (p:Pos):Option (RS sc vars (.Assign [.Name x np] e p)):=(oS (o7 sc vars x)).bind fun i=>match view e with
 | .comp elt gs sc' cp h=>(oneGen gs).bind fun g=>(tC T sc vars sc' elt g.1.1 g.1.2.1 g.1.2.2).map fun z=>h▸g.2▸rAC i z
 | _=>(bS (!isComp e)).bind fun hc=>(T sc vars e).map fun y=>rAN i (by have:=hc.down;rwa [Bool.not_eq_true'] at this) y
noncomputable def tAs (T:TE) (t e:Expr) (p:Pos):Option (RS sc vars (.Assign [t] e p)):=match view t with
 | .name x np h=>h▸tAN T x np e p
 | .tuple ts k np h=>(bS (notTuple e)).bind fun hn=>(tNames ts).bind fun xs=>(tVars sc vars xs.1).bind fun is=>(T sc vars e).map fun y=>h▸rAT xs is hn.down y
 | .attr o x np h=>(oS (look x atTab)).bind fun n=>(T sc vars o).bind fun z=>(T sc vars e).map fun y=>h▸rAA n z y
 | .sub o i np h=>(T sc vars o).bind fun z=>(T sc vars i).bind fun w=>(T sc vars e).map fun y=>h▸rAI z w y
 | _=>none
noncomputable def rGN {op:Operator} (i:{i:Nat // o7 sc vars x=some i}) (g:{g:BOp // Aug op g}) (y:RE sc vars e):RS sc vars (.AugAssign (.Name x np) op e p):=⟨.sG i.1 g.1 y.m,fun H=>SS_G i.2 g.2 (y.ok H).se⟩
noncomputable def rGA {op:Operator} (n:{n:At // look x atTab=some n}) (z:RE sc vars o) (g:{g:BOp // Aug op g}) (y:RE sc vars e):RS sc vars (.AugAssign (.Attribute o x np) op e p):=⟨.sGA z.m n.1 g.1 y.m,fun H=>SS_GA H.O n.2 (z.ok H).se g.2 (y.ok H).se⟩
noncomputable def tG (T:TE) (t:Expr) (op:Operator) (e:Expr) (p:Pos):Option (RS sc vars (.AugAssign t op e p)):=(tAug op).bind fun g=>(T sc vars e).bind fun y=>match view t with
 | .name x np h=>(oS (o7 sc vars x)).map fun i=>h▸rGN i g y
 | .attr o x np h=>(oS (look x atTab)).bind fun n=>(T sc vars o).map fun z=>h▸rGA n z g y
 | _=>none
noncomputable def rPct {k:Nat} {bp:Pos} (hm:memS x pctTexts=true) (z:RE sc vars r) (hn:notS z.m=true):RL sc vars [.BinOp (.Constant (.str x) k cp) .Mod r bp]:=⟨.cons (.fstr (.cons z.m .nil)) .nil,fun H=>SL_pct hm hn (z.ok H).se⟩
noncomputable def tStr (e:Expr):Option {y:Str×Nat×Pos // e=.Constant (.str y.1) y.2.1 y.2.2}:=match view e with
 | .const c k p h=>(match c,h with
  | .str x,h=>some ⟨(x,k,p),h⟩
  | _,_=>none)
 | _=>none
noncomputable def tMod (op:Operator):Option (PLift (op=.Mod)):=match op with
 | .Mod=>some ⟨rfl⟩
 | _=>none
noncomputable def tPct (T:TE) (e:Expr):Option (RL sc vars [e]):=match view e with
 | .binop l op r bp h=>(tMod op).bind fun ho=>(tStr l).bind fun x=>(bS (memS x.1.1 pctTexts)).bind fun hm=>(T sc vars r).bind fun z=>(bS (notS z.m)).map fun hn=>h▸ho.down▸x.2▸rPct hm.down z hn.down
 | _=>none
noncomputable def tX (T:TE) (as:List Expr):Option (RL sc vars as):=match as with
 | [e]=>(match tPct T e with
  | some x=>some x
  | none=>tL T sc vars [e])
 | as=>tL T sc vars as
noncomputable def rRse (hg:gC sc x=true) (y:{y:Ex // look x exTab=some y}) (z:RL sc vars as):RS sc vars (.Raise (some (.Call (.Name x np) as [] cp)) none p):=⟨.sX y.1 z.m,fun H=>SS_X H.O H.X hg y.2 (z.ok H)⟩
structure Rsd (s:Stmt) where
 x:Str
 np:Pos
 as:List Expr
 cp:Pos
 p:Pos
 h:s=.Raise (some (.Call (.Name x np) as [] cp)) none p
noncomputable def tRsd (e c:Option Expr) (p:Pos):Option (Rsd (.Raise e c p)):=match e,c with
 | some e,none=>(match view e with
  | .call f as kw cp h=>(match kw,h with
   | [],h=>(match view f with
    | .name x np h2=>some ⟨x,np,as,cp,p,by rw [h,h2]⟩
    | _=>none)
   | _::_,_=>none)
  | _=>none)
 | _,_=>none
noncomputable def tRse (T:TE) (e c:Option Expr) (p:Pos):Option (RS sc vars (.Raise e c p)):=(tRsd e c p).bind fun z=>(bS (gC sc z.x)).bind fun hg=>(oS (look z.x exTab)).bind fun y=>(tX T z.as).map fun w=>z.h▸rRse hg.down y w
noncomputable def tHR (y:Ex) (e:Expr) (p:Pos):Option (RH sc vars y [.Return (some e) p]):=match view e with
 | .const c k q h=>(match c,h with
  | .none,h=>some ⟨.cons (.sR .cN) .nil,fun _=>h▸HS_none⟩
  | .bool b,h=>some ⟨.cons (.sR (.cB b)) .nil,fun _=>h▸HS_bool⟩
  | _,_=>none)
 | _=>none
noncomputable def tHA (y:Ex) (t e:Expr) (p:Pos):Option (RH sc vars y [.Assign [t] e p]):=match view t,view e with
 | .name x np h,.const c k q h2=>(match c,h2 with
  | .bool b,h2=>(oS (o7 sc vars x)).map fun i=>⟨.cons (.sA i.1 (.cB b)) .nil,fun _=>h▸h2▸HS_asg i.2⟩
  | _,_=>none)
 | _,_=>none
noncomputable def tHX (y:Ex) (e c:Option Expr) (p:Pos):Option (RH sc vars y [.Raise e c p]):=(tRsd e c p).bind fun z=>match z with
 | ⟨x,np,as,cp,p',h⟩=>(match as,h with
  | [a],h=>(tStr a).bind fun w=>match decEq x k9,decEq y .BadCommand with
   | .isTrue h1,.isFalse h2=>(bS (gC sc k9)).map fun hg=>⟨.cons (.sX .BadCommand (.cons .cS .nil)) .nil,fun H=>h▸h1▸w.2▸HS_rse H.O H.X hg.down h2⟩
   | _,_=>none
  | _,_=>none)
noncomputable def tH (y:Ex) (s:Stmt):Option (RH sc vars y [s]):=match viewS s with
 | .ret (some e) p h=>h▸tHR y e p
 | .assign [t] e p h=>h▸tHA y t e p
 | .rse e c p h=>h▸tHX y e c p
 | _=>none
noncomputable def rTry (hg:gC sc x=true) (y:{y:Ex // look x exTab=some y}) (w:RH sc vars y.1 [st]) (z:RSs sc vars b):RS sc vars (.Try b [.ExceptHandler (some (.Name x np)) none [st] hp] [] [] p):=⟨.sTry z.m y.1 w.m,fun H=>SS_Try H.O H.X hg y.2 (w.ok H) (z.ok H)⟩
noncomputable def tTry (T:TS sc vars) (b:List Stmt) (hs:List ExceptHandler) (p:Pos):Option (RS sc vars (.Try b hs [] [] p)):=match hs with
 | [.ExceptHandler (some t) none [st] hp]=>(match view t with
  | .name x np h=>(bS (gC sc x)).bind fun hg=>(oS (look x exTab)).bind fun y=>(tH y.1 st).bind fun w=>(tSs T b).map fun z=>h▸rTry hg.down y w z
  | _=>none)
 | _=>none
noncomputable def rFor {tg:Expr} (y:{y:List Str×Nat // Tg tg y.1 y.2}) (is:{is:List Nat // kB sc vars y.1.1 is}) (z:RE sc vars it) (w:RSs sc vars b):RS sc vars (.For tg it b [] p):=⟨.sF is.1 (y.1.2==0) z.m w.m,fun H=>SS_F y.2 is.2 z.he (z.ok H).si (w.ok H)⟩
noncomputable def rIf (x:RE sc vars c) (y:RSs sc vars b) (z:RSs sc vars b'):RS sc vars (.If c b b' p):=⟨.sIf x.m y.m z.m,fun H=>SS_If (x.ok H).st (y.ok H) (z.ok H)⟩
noncomputable def rWhl (x:RE sc vars c) (y:RSs sc vars b):RS sc vars (.While c b [] p):=⟨.sW x.m y.m,fun H=>SS_W (x.ok H).st (y.ok H)⟩
noncomputable def tRet (T:TE) (v:Option Expr) (p:Pos):Option (RS sc vars (.Return v p)):=match v with
 | none=>some ⟨.sR0,fun _=>SS_R0⟩
 | some e=>(T sc vars e).map fun x=>⟨.sR x.m,fun H=>SS_R (x.ok H).se⟩
noncomputable def tEx (T:TE) (e:Expr) (p:Pos):Option (RS sc vars (.Expr e p)):=match view e with
 | .call f as kw cp h=>(T sc vars (.Call f as kw cp)).map fun x=>⟨.sE x.m,fun H=>h▸SS_E (x.ok H).se⟩
 | _=>none
noncomputable def tS1 (E:TE) (T:TS sc vars):TS sc vars:=fun s=>match viewS s with
 | .ret v p h=>h▸tRet E v p
 | .assign ts e p h=>(match ts,h with
  | [t],h=>h▸tAs E t e p
  | _,_=>none)
 | .aug t op e p h=>h▸tG E t op e p
 | .for t it b o p h=>(match o,h with
  | [],h=>(tTg t).bind fun y=>(tVars sc vars y.1.1).bind fun is=>(E sc vars it).bind fun z=>(tSs T b).map fun w=>h▸rFor y is z w
  | _::_,_=>none)
 | .whl t b o p h=>(match o,h with
  | [],h=>(E sc vars t).bind fun x=>(tSs T b).map fun y=>h▸rWhl x y
  | _::_,_=>none)
 | .ite t b o p h=>(E sc vars t).bind fun x=>(tSs T b).bind fun y=>(tSs T o).map fun z=>h▸rIf x y z
 | .rse e c p h=>h▸tRse E e c p
 | .try b hs o f p h=>(match o,f,h with
  | [],[],h=>h▸tTry T b hs p
  | _,_,_=>none)
 | .expr e p h=>h▸tEx E e p
 | .pass p h=>some ⟨.sP,fun _=>h▸SS_P⟩
 | .brk p h=>some ⟨.sBrk,fun _=>h▸SS_Brk⟩
 | .other=>none
noncomputable def tS (E:TE):Nat→TS sc vars
 | 0=>fun _=>none
 | n+1=>tS1 E (tS E n)
end
noncomputable def tBody (sc:Scope) (vars:List Str) (ss:List Stmt):Option (RSs sc vars ss):=tSs (tS (tE 50) 20) ss
structure RD (a:Arguments) (sc:Scope) (body:List Stmt) (D:Def):Prop where
 ar:(a.posonlyargs.isEmpty && a.kwonlyargs.isEmpty && a.vararg.isNone && a.kwarg.isNone)=true
 vars:D.vars=iE a sc
 par:D.params=a.args.length
 ext:D.extra=(iE a sc).length - a.args.length
 ok:∀{C d},Hy C d→SSs C d sc D.vars body D.body
noncomputable def tD (a:Arguments) (sc:Scope) (body:List Stmt):Option {D:Def // RD a sc body D}:=
 (bS (a.posonlyargs.isEmpty && a.kwonlyargs.isEmpty && a.vararg.isNone && a.kwarg.isNone)).bind fun h=>(dfltOf a.defaults).bind fun ds=>(tBody sc (iE a sc) body).map fun b=>⟨⟨iE a sc,a.args.length,(iE a sc).length - a.args.length,ds,b.m⟩,h.down,rfl,rfl,rfl,b.ok⟩
theorem sound {C:Cx} (O:C.All):∀d,kE C d
 | 0=>call_zero
 | d+1=>call_sound O (sound O d)
end Internal
end
section
namespace Internal
open PySem PySem.W PySem.Calls PyProof.Rows Builtin
noncomputable def addrs:List Nat:=[113,120,127,134,141,148,155,162,169,176,191,198,205,226,233,240,254,275,282,303,310,317,331,345,352,366,373,380,394,408,415,422,436,443,450,464,471,478,485,499,506,520,534,541,555,560,565,579,586,593,605,612,640,647,661,675,689,696,703,710,717,724,731,738,745,752,759,764,771,776,783,790,797,804,811,818,823,830,837,844,851,858,865,872,879,886,891,896,901,908,915,920,925]
noncomputable def nthA:List Nat→Nat→Nat
 | [],_=>0
 | a::_,0=>a
 | _::r,n+1=>nthA r n
noncomputable def fnAt (f:Fn):Addr:=nthA addrs f.val
noncomputable def n6:Cls→Addr
 | .Cursor=>257 | .Sink=>334 | .Entry=>397 | .ConfState=>453 | .Snapshot=>523 | .Message=>568 | .ConfChange=>629 | .Command=>678
noncomputable def exAt:Ex→Addr
 | .Corrupt=>56 | .ShortOctets=>68 | .BadOption=>80 | .BadCommand=>104
noncomputable def fns:List Fn:=List.finRange 93
theorem fns_all (f:Fn):f∈fns:=List.mem_finRange f
noncomputable def dFunc (o:Obj):Option {fd:FuncData // o.data=.func fd}:=match o with
 | ⟨_,_,.func fd,_⟩=>some ⟨fd,rfl⟩
 | _=>none
noncomputable def dBody (fd:FuncData):Option {b:List Stmt // fd.body=.stmts b}:=match h:fd.body with
 | .stmts b=>some ⟨b,rfl⟩
 | _=>none
noncomputable def dInt (o:Obj) (i:Int):Option (PLift (∃n t,o.data=.seq #[.int i t] n)):=match o with
 | ⟨_,_,.seq xs n,_⟩=>(match xs with
  | ⟨[.int j t]⟩=>(match decEq j i with
   | .isTrue h=>some ⟨n,t,by rw [h]⟩
   | _=>none)
  | _=>none)
 | _=>none
inductive DfOk (K:Frag):List Int→Value→Prop
 | none:DfOk K [] .none
 | one {i:Int} {T:Addr} {o:Obj} {n:Nat} {t:Tok} (h:K.lookup T=some o) (hd:o.data=.seq #[.int i t] n):DfOk K [i] (.ref T)
theorem DfOk.dn {K:Frag} {h:Heap} {ds:List Int} {v:Value} (X:K.In h) (d:DfOk K ds v):ds=[]∧v=.none∨∃i T o n t,ds=[i]∧v=.ref T∧h.get? T=some o∧o.data=.seq #[.int i t] n:=by
 induction d with
 | none=>exact .inl ⟨rfl,rfl⟩
 | one h hd=>exact .inr ⟨_,_,_,_,_,rfl,rfl,X _ _ h,hd⟩
noncomputable def dDf (K:Frag) (ds:List Int) (v:Value):Option (PLift (DfOk K ds v)):=match ds,v with
 | [],.none=>some ⟨.none⟩
 | [i],.ref T=>(oS (K.lookup T)).bind fun o=>(dInt o.1 i).map fun h=>⟨h.down.rec fun n h=>h.rec fun t h=>.one o.2 h⟩
 | _,_=>none
noncomputable def isFunK (k:ScopeKind):Bool:=Nat.beq k.ctorIdx 1
noncomputable def isFree (k:NameKind):Bool:=Nat.beq k.ctorIdx 2
noncomputable def locK (k:Option NameKind):Bool:=match k with
 | some k=>Nat.ble k.ctorIdx 1
 | none=>false
theorem isFunK_eq {k:ScopeKind} (h:isFunK k=true):k=.function:=by cases k <;> first | rfl | exact bfE h
theorem locK_eq {k:Option NameKind} (h:locK k=true):k=some .local∨k=some .cell:=by
 induction k with
 | none=>exact bfE h
 | some k=>cases k <;> first | exact .inl rfl | exact .inr rfl | exact bfE h
noncomputable def fdB (K:Frag) (vars:List Str) (fd:FuncData):Bool:=
 !fd.scope.isCoroutine && (!fd.scope.isGenerator && (isFunK fd.scope.kind && (fd.closure.isEmpty && (Nat.beq fd.globals mainGlobals && (Nat.beq fd.builtins builtinsNs && (codeIn K fd.code fd.qualname &&
  (fd.scope.names.all (fun y=>!isFree y.2) && ((fd.params.args.map (·.arg)).all (fun x=>locK (look x fd.scope.names)) && (nodupS vars && nodupS (fd.scope.names.map (·.1)))))))))))
structure FdC (K:Frag) (f:Fn) where
 o:Obj
 fd:FuncData
 body:List Stmt
 D:Def
 h1:K.lookup (fnAt f)=some o
 h2:o.data=.func fd
 h3:fd.body=.stmts body
 rd:RD fd.params fd.scope body D
 ck:fdB K D.vars fd=true
 df:DfOk K D.dflt fd.defaults
noncomputable def fdC (K:Frag) (f:Fn):Option (FdC K f):=(oS (K.lookup (fnAt f))).bind fun o=>(dFunc o.1).bind fun fd=>(dBody fd.1).bind fun b=>(tD fd.1.params fd.1.scope b.1).bind fun D=>
 (bS (fdB K D.1.vars fd.1)).bind fun h=>(dDf K D.1.dflt fd.1.defaults).map fun g=>⟨o.1,fd.1,b.1,D.1,o.2,fd.2,b.2,D.2,h.down,g.down⟩
noncomputable def ats:List At:=[.data,.place,.parts,.term,.index,.kind,.voters,.learners,.outgoing,.learners_next,.auto_leave,.conf,.to,.frm,.log_term,.entries,.commit,.snapshot,.reject,.reject_hint,.context,.transition,.changes,.client,.number,.key,.value,.expect]
theorem ats_all (n:At):n∈ats:=
 have h:∀n:Fin 28,List.elem (α:=At) n ats=true:=by decide+kernel
 List.elem_iff.mp (h n)
noncomputable def mts:List Mt:=[.left,.varint,.lengthed,.octet,.flag,.done,.row,.copy,.size,.encode,.append,.extend]
theorem mts_all (n:Mt):n∈mts:=List.elem_iff.mp (by cases n <;> rfl)
noncomputable def clM (K:Frag) (c:Cls) (m:Mt):Bool:=match methOf c m with
 | some f=>findIn K (.ref (n6 c)) m.name==some (some (.ref (fnAt f))) && isFn K (.ref (fnAt f))
 | none=>true
noncomputable def clB (K:Frag) (c:Cls):Bool:=
 findIn K (.ref (n6 c)) "__getattribute__" ==some (some (.builtin "object.__getattribute__")) && (findIn K (.ref (n6 c)) "__getattr__" ==some none && (findIn K (.ref (n6 c)) "__setattr__" ==some (some (.builtin "object.__setattr__")) &&
 (plainOver K (n6 c) && (hasDictIn K (n6 c) && (ats.all (fun n=>findIn K (.ref (n6 c)) n.name==some none) && (mts.all (clM K c) &&
 (nsIn K mainGlobals c.name==some (some (.ref (n6 c))) && (keepIn K (.ref (n6 c)) && (makesIn K (n6 c) && (findIn K (.ref (n6 c)) "__init__" ==some (some (.ref (fnAt c.init))) && isFn K (.ref (fnAt c.init))))))))))))
inductive GvOk (x:Option (Option Value)) (g:GV):Prop
 | mk (u:Value) (h:x=some (some u)) (r:∀h ρ,VR h ρ u g.toV)
noncomputable def gvC (x:Option (Option Value)) (g:GV):Option (PLift (GvOk x g)):=match x,g with
 | some (some (.int j t)),.int i=>(match decEq j i with
  | .isTrue h=>some ⟨_,rfl,fun _ _=>h▸.int _ _⟩
  | _=>none)
 | some (some (.bytes y t)),.bytes b=>(bS (seqL (y.toList.map (·.toNat)) b && Nat.ble y.size lim)).map fun h=>⟨_,rfl,fun _ _=>by
  rw [←seqL_eq (aL h.down)];exact .bytes _ _ (bG (aR h.down))⟩
 | _,_=>none
noncomputable def allO {α:Type} {P:α→Prop} (c:∀a,Option (PLift (P a))):(l:List α)→Option (PLift (∀a∈l,P a))
 | []=>some ⟨fun _ h=>nomatch h⟩
 | a::r=>(c a).bind fun h=>(allO c r).map fun k=>⟨fun b hb=>(bN.mp hb).elim (fun e=>e▸h.down) (k.down b)⟩
noncomputable def exs:List Ex:=[.Corrupt,.ShortOctets,.BadOption,.BadCommand]
theorem exs_all (n:Ex):n∈exs:=List.elem_iff.mp (by cases n <;> rfl)
noncomputable def exB (K:Frag) (y:Ex):Bool:=nsIn K mainGlobals y.name==some (some (.ref (exAt y))) && (keepIn K (.ref (exAt y)) && (excIn K (exAt y) excMro "Exception.__new__" &&
 exs.all fun x=>decide (exmOne K (.ref (exAt y)) (.ref (exAt x))=some (pC y x))))
noncomputable def bts:List Bt:=[.len,.bytes,.tuple,.sorted,.min,.range,.bytearray]
theorem bts_all (n:Bt):n∈bts:=List.elem_iff.mp (by cases n <;> rfl)
noncomputable def clss:List Cls:=[.Cursor,.Sink,.Entry,.ConfState,.Snapshot,.Message,.ConfChange,.Command]
theorem clss_all (n:Cls):n∈clss:=List.elem_iff.mp (by cases n <;> rfl)
structure Stat (K:Frag):Prop where
 fd:fns.map (fun f=>(fdC K f).map (·.D))=fns.map (fun f=>some f.info)
 fn:fnTab.all (fun y=>nsIn K mainGlobals y.1==some (some (.ref (fnAt y.2))))=true
 keep:fns.all (fun f=>keepIn K (.ref (fnAt f)))=true
 gl:(allO (P:=fun y:Str×GV=>GvOk (nsIn K mainGlobals y.1) y.2) (fun y=>gvC _ _) globTab).isSome=true
 cl:clss.all (clB K)=true
 ex:exs.all (exB K)=true
 bt:bts.all (fun b=>nsIn K mainGlobals b.name==some none)=true
noncomputable def cx (prog:Program) (w:World) (K:Frag) (mg mb:Str→Option Value) (s:Shared):Cx:=⟨prog,w,s.heap,K,s.os,mg,mb,n6,fnAt,exAt⟩
section
variable {prog:Program} {w:World} {K:Frag} {mg mb:Str→Option Value} {s:Shared}
theorem Stat.fdc (S:Stat K) (f:Fn):∃y,fdC K f=some y∧y.D=f.info:=fK.mp (List.map_inj_left.mp S.fd f (fns_all f))
theorem fn_ok (S:Stat K) (X:K.In s.heap) (H:∀d,kE (cx prog w K mg mb s) d→Hy (cx prog w K mg mb s) d) (f:Fn):FnOk (cx prog w K mg mb s) f:=by
 obtain ⟨⟨o,fd,body,D,h1,h2,h3,rd,ck,df⟩,_,hD⟩:=S.fdc f
 obtain rfl:D=f.info:=hD
 have c1:=aR ck
 have c3:=aR (aR c1)
 have c7:=aR (aR (aR c3))
 have c8:=aR c7
 have c9:=aR c8
 have a:=rd.ar
 refine ⟨o,fd,body,X _ _ h1,h2,h3,nF (aL ck),nF (aL c1),isFunK_eq (aL (aR c1)),List.isEmpty_iff.mp (aL c3),i0 (aL (aR c3)),i0 (aL (aR (aR c3))),codeRec_of X (aL c7),List.isEmpty_iff.mp (aL (aL (aL a))),List.isEmpty_iff.mp (aR (aL (aL a))),Option.isNone_iff_eq_none.mp (aR (aL a)),Option.isNone_iff_eq_none.mp (aR a),rd.vars,rd.par,rd.ext,fun d h=>rd.ok (H d h),fun x q=>?_,fun x hx=>?_,mB (aL (aR c9)),mB (aR (aR c9)),?_⟩
 ·exact bfE (cF.mp (aL c8) _ (jC q))
 ·have:=cF.mp (aL c9) x hx
  rw [lG] at this
  exact locK_eq this
 ·exact df.dn X
theorem Stat.clB (S:Stat K) (c:Cls):clB K c=true:=cF.mp S.cl c (clss_all c)
theorem cls_ok (S:Stat K) (c:Cls):ClsOk (cx prog w K mg mb s) c:=by
 have h:=S.clB c
 have h3:=aR (aR h)
 have h6:=aR (aR (aR h3))
 have nm:∀n:At,findIn K (.ref (n6 c)) n.name=some none:=fun n=>gZ (cF.mp (aL h6) n (ats_all n))
 refine ⟨gZ (aL h),gZ (aL (aR h)),gZ (aL h3),aL (aR h3),aL (aR (aR h3)),nm,fun n=>?_,fun m f hm=>?_⟩
 ·show takerIn K (n6 c) n.name=some none
  unfold takerIn
  rw [nm n];rfl
 ·have:=cF.mp (aL (aR h6)) m (mts_all m)
  unfold clM at this
  rw [hm] at this
  exact ⟨gZ (aL this),aR this⟩
theorem map_tab {α:Type} {l:List α} {nm:α→Str} {x:Str} {a:α} (h:look x (l.map fun b=>(nm b,b))=some a):x=nm a:=mY h
theorem ok_of (S:Stat K) (X:K.In s.heap) (g:s.heap.Ns mainGlobals mg) (b:s.heap.Ns builtinsNs mb):(cx prog w K mg mb s).Ok where
 kin:=X
 mgNs:=g
 mbNs:=b
 glob:=fun k y hy=>by
  obtain ⟨h,_⟩:=kH.mp S.gl
  obtain ⟨u,e,r⟩:=h.down y (a7 hy)
  exact ⟨u,mg_of X g e,r⟩
 cls:=cls_ok S
theorem namesOf (S:Stat K) (X:K.In s.heap) (g:s.heap.Ns mainGlobals mg):(cx prog w K mg mb s).Names where
 fn:=fun x f h=>mg_of X g (gZ (cF.mp S.fn _ (look_mem h)))
 keepF:=fun f=>cF.mp S.keep f (fns_all f)
 cls:=fun x c h=>by rw [map_tab h];exact mg_of X g (gZ (aL (aR (aR (aR (aR (aR (aR (aR (S.clB c))))))))))
 keepC:=fun c=>aL (aR (aR (aR (aR (aR (aR (aR (aR (S.clB c)))))))))
 makes:=fun c=>aL (aR (aR (aR (aR (aR (aR (aR (aR (aR (S.clB c))))))))))
 init:=fun c=>have h:=aR (aR (aR (aR (aR (aR (aR (aR (aR (aR (S.clB c))))))))));⟨gZ (aL h),gZ (aR h)⟩
theorem excsOf (S:Stat K) (X:K.In s.heap) {p:Program} {loose:List Str} (T:TopRead p loose mg mb s.heap):(cx prog w K mg mb s).Excs:=
 have he:∀y,exB K y=true:=fun y=>cF.mp S.ex y (exs_all y)
 ⟨fun x y h=>by rw [map_tab h];exact mg_of X T.g (gZ (aL (he y))),fun y=>aL (aR (he y)),fun y=>.of (own_of_in X T (gZ (aL (he y))) (aL (aR (aR (he y))))),fun y x=>of_decide_eq_true (cF.mp (aR (aR (aR (he y)))) x (exs_all x))⟩
theorem bltsOf (S:Stat K) (X:K.In s.heap) (g:s.heap.Ns mainGlobals mg) (hb:∀x:Str,x≠ "__name__" →mb x=bootBuiltins x):(cx prog w K mg mb s).Blts:=fun b=>by
 refine ⟨mg_none_of X g (gZ (cF.mp S.bt b (bts_all b))),?_⟩
 show mb b.name=some b.val
 rw [hb _ (by cases b <;> decide+kernel)]
 cases b <;> decide+kernel
structure WhC (C:Cx):Prop where
 A:C.All
 H:∀d,Hy C d
theorem whole (S:Stat K) (X:K.In s.heap) {p:Program} {loose:List Str} (T:TopRead p loose mg mb s.heap):WhC (cx prog w K mg mb s):=
 have H:∀d,kE (cx prog w K mg mb s) d→Hy (cx prog w K mg mb s) d:=fun d h=>⟨ok_of S X T.g T.b,namesOf S X T.g,bltsOf S X T.g T.builtins,excsOf S X T,h⟩
 have A:(cx prog w K mg mb s).All:=⟨ok_of S X T.g T.b,T.nolimit,fn_ok S X H⟩
 ⟨A,fun d=>H d (sound A d)⟩
end
end Internal
end
section
namespace Internal
open PySem PySem.W PySem.Calls PyProof.Rows Builtin
noncomputable def lits:List Int→M
 | []=>.nil
 | i::r=>.cons (.cI i) (lits r)
theorem wpL_lits {W:Wp} {m:Lo} {σ:aN} {X:Ex→aN→Prop}:∀{is:List Int} {Q:List V→aN→Prop},wpL W (lits is) m σ Q X→Q (is.map .int) σ
 | [],Q,q=>q
 | i::r,Q,q=>wpL_lits (is:=r) (Q:=fun vs σ=>Q (.int i::vs) σ) q
noncomputable def lawTail:M:=match b_law with
 | .cons _ r=>r
 | _=>.nil
noncomputable def lawM (it:M):M:=.cons (.sA 1 (.comp (.loc 0) 0 it .nil [])) lawTail
noncomputable def lawBody (is:List Int):M:=lawM (.lst (lits (is.take 40)))
noncomputable def jZ:Str:= "script"
noncomputable def s40 (p1:Pos) (k:Nat) (p2 p3 p4:Pos):Expr:=.Subscript (.Name jZ p1) (.Slice none (some (.Constant (.int 40) k p2)) none p3) p4
noncomputable def t40 (e:Expr):Option {y:Pos×Nat×Pos×Pos×Pos // e=s40 y.1 y.2.1 y.2.2.1 y.2.2.2.1 y.2.2.2.2}:=match view e with
 | .sub o i p4 h=>(match view o,view i with
  | .name x p1 h1,.slice a b c p3 h2=>(match a,b,c,h2 with
   | none,some b,none,h2=>(match view b with
    | .const c k p2 h3=>(match c,h3 with
     | .int n,h3=>(match decEq n 40,decEq x jZ with
      | .isTrue g,.isTrue g2=>some ⟨(p1,k,p2,p3,p4),by rw [h,h1,h2,h3,g,g2];rfl⟩
      | _,_=>none)
     | _,_=>none)
    | _=>none)
   | _,_,_,_=>none)
  | _,_=>none)
 | _=>none
structure LawC (fd:FuncData) (body:List Stmt) where
 x:Str
 np:Pos
 elt:Expr
 tg:Expr
 it:Expr
 sc':Scope
 cp:Pos
 p:Pos
 rest:List Stmt
 h:body=.Assign [.Name x np] (.ListComp elt [⟨tg,it,[],0⟩] sc' cp) p::rest
 y:{y:Pos×Nat×Pos×Pos×Pos // it=s40 y.1 y.2.1 y.2.2.1 y.2.2.2.1 y.2.2.2.2}
 i:{i:Nat // o7 fd.scope (iE fd.params fd.scope) x=some i}
 c:RCm fd.scope (iE fd.params fd.scope) sc' elt tg it []
 r:RSs fd.scope (iE fd.params fd.scope) rest
 ck:(decide (fd.params.args.map (·.arg)=[jZ]) && decide (fd.scope.names.lookup jZ=some .local))=true
noncomputable def LawC.m {fd:FuncData} {body:List Stmt} (z:LawC fd body) (it:M):M:=.cons (.sA z.i.1 (.comp z.c.elt.m z.c.k it .nil z.c.caps)) z.r.m
structure Acm (s:Stmt) where
 x:Str
 np:Pos
 elt:Expr
 tg:Expr
 it:Expr
 sc':Scope
 cp:Pos
 p:Pos
 h:s=.Assign [.Name x np] (.ListComp elt [⟨tg,it,[],0⟩] sc' cp) p
noncomputable def tAcm (s:Stmt):Option (Acm s):=match viewS s with
 | .assign ts e p h=>(match ts,h with
  | [t],h=>(match view t,view e with
   | .name x np h1,.comp elt gs sc' cp h2=>(oneGen gs).bind fun g=>match g with
    | ⟨(tg,it,ifs),h3⟩=>(match ifs,h3 with
     | [],h3=>some ⟨x,np,elt,tg,it,sc',cp,p,by rw [h,h1,h2,h3]⟩
     | _::_,_=>none)
   | _,_=>none)
  | _,_=>none)
 | _=>none
noncomputable def lawC (fd:FuncData) (body:List Stmt):Option (LawC fd body):=match body with
 | []=>none
 | st::rest=>(tAcm st).bind fun a=>(t40 a.it).bind fun y=>(oS (o7 fd.scope (iE fd.params fd.scope) a.x)).bind fun i=>(tC (tE 50) fd.scope (iE fd.params fd.scope) a.sc' a.elt a.tg a.it []).bind fun c=>
  (tBody fd.scope (iE fd.params fd.scope) rest).bind fun r=>(bS (decide (fd.params.args.map (·.arg)=[jZ]) && decide (fd.scope.names.lookup jZ=some .local))).map fun ck=>⟨a.x,a.np,a.elt,a.tg,a.it,a.sc',a.cp,a.p,rest,congrArg (·::rest) a.h,y,i,c,r,ck.down⟩
noncomputable def lawK (K:Frag):Option (M→M):=(fdC K .law).bind fun y=>(lawC y.fd y.body).map (·.m)
section
variable {C:Cx} {d:Nat} {Γ Γ':Fx} {ρ ρ':dI} {σ σ':aN} {m m':Lo} {s s' s₁:Shared}
inductive Scr (h:Heap) (ρ:dI) (a:Addr) (vs:List V):Prop
 | mk (o:Obj) (xs:Array Value) (n:Nat) (e:h.get? a=some o) (ec:o.cls=.type "list") (ed:o.data=.seq xs n) (z:xs.size≤lim) (r:gQ h ρ xs.toList vs)
theorem Scr.keep {h h':Heap} {a:Addr} {vs:List V} (S:Scr h ρ a vs) (k:∀b o,h.get? b=some o→h'.get? b=some o):Scr h' ρ a vs:=by
 obtain ⟨o,xs,n,e,ec,ed,z,r⟩:=S
 exact ⟨o,xs,n,k _ _ e,ec,ed,z,r.mono (.of_keeps k) fun _ _ e=>e⟩
theorem clip40 {α:Type} (l:List α):l.take (clipAt l.length 40)=l.take 40:=by
 rw [show clipAt l.length 40=min 40 l.length from oY (k:=40)]
 rcases Nat.le_total 40 l.length with q | q
 ·rw [kK q]
 ·rw [Nat.min_eq_right q,List.take_of_length_le (bD _),List.take_of_length_le q]
theorem script_slice {p1 p2 p3 p4:Pos} {k:Nat} {nm:Str→Option Value} {a:Addr} {vs:List V} {E:Value→Shared→Prop} {Q:V→aN→Prop}
  (J:cO C Γ ρ σ m s) (hk:Γ.env.scope.kind=.function) (hn:s.heap.Ns Γ.env.locals nm) (hy:Γ.env.kindOf jZ=some .local) (hnm:nm jZ=some (.ref a))
  (R:Scr s.heap ρ a vs) (q:Q (.obj σ.length) (σ++[.list (vs.take 40)])):
  wpG C.M Γ.A (eval (s40 p1 k p2 p3 p4) Γ.env) (PQ C Γ ρ m s Q) E s:=by
 obtain ⟨o,xs,n,e,ec,ed,z,r⟩:=R
 refine oD (lF (wpAny_loadName_local hk hy hn hnm ?_) (dY (by decide+kernel)))
 refine wpG_Slice ?_
 rw [evalPart_none]
 refine aY (bV (show wpAny C.M Γ.A (eval (.Constant (.int 40) k p2) Γ.env) _ _ _ from wpAny_Constant_int (aY ?_)))
 have e':=Heap.get?_push_of_some {cls:=.type "slice",data:=.fields #[.none,.int 40 s.toks,.none]} e
 have I':=J.push {cls:=.type "slice",data:=.fields #[.none,.int 40 s.toks,.none]} (s.toks+1)
 have hl:(s.heap.push {cls:=.type "slice",data:=.fields #[.none,.int 40 s.toks,.none]}).IsList a xs:=⟨_,e',ec,n,ed⟩
 refine mA hl.typeIs slot_list_getitem.lookup (wpAny_getItem_list_slice hl (Heap.IsSliceOf.new ..) .none (.int 40 _) .none (by simp) (.after (s₁:={s with heap:=s.heap.push {cls:=.type "slice",data:=.fields #[.none,.int 40 s.toks,.none]},toks:=s.toks+1}) (.refl _ _) (.push _) (.list I' ?_ ?_ q)) (aA z j1))
 ·rw [r.size] at z;rw [nG];exact aA (Nat.min_le_right _ _) z
 ·rw [slicePick_plain]
  show gQ _ _ ((xs.toList.drop 0).take (clipAt xs.size 40 - 0)) _
  rw [List.drop_zero,Nat.sub_zero,r.size,←clip40 vs]
  exact (r.push _).take _
theorem law_exec {fd:FuncData} {body:List Stmt} (z:LawC fd body) (H:Hy C d) {r:List Env} {nm:Str→Option Value} {a:Addr} {is:List Int} {Q:Fl→Lo→aN→Prop} {X:Ex→Lo→aN→Prop} (W:Γ.Wf d) (hfr:Γ.fr=Γ.env::r) (S:kG fd.scope Γ.env) (hv:Γ.vars=iE fd.params fd.scope) (nf:∀x,Γ.env.kindOf x≠some .free) (nd:Γ.vars.Nodup)
  (J:cO C Γ ρ σ m s) (hn:s.heap.Ns Γ.env.locals nm) (hy:Γ.env.kindOf jZ=some .local) (hnm:nm jZ=some (.ref a)) (R:Scr s.heap ρ a (is.map .int)) (q:wpSs (wpCall d) (z.m (.lst (lits (is.take 40)))) m σ Q X):
  wpG C.M Γ.A (execs body Γ.env) (PS C Γ ρ s Q) (PXS C Γ ρ s X) s:=by
 obtain ⟨x,np,elt,tg,it,sc',cp,p,rest,rfl,⟨y,rfl⟩,i,c,rr,ck⟩:=z
 refine wpG_execs_cons (aO (acomp_core (mit:=.lst (lits (is.take 40))) i.2 c.ok c.tgo .nil (c.elt.ok H).se c.cap c.it.he W S hv nf nd J (fun Q X' q=>?_) q) (fun f s₁ h=>?_) fun _ _ e=>e)
 ·have q:=(wpL_lits (Q:=qLs Q) q).2
  rw [List.map_take] at q
  refine aO (script_slice J W.kind hn hy hnm R q) (fun v s' h=>?_) fun _ _ h=>h
  obtain ⟨ρ₁,σ₁,v₁,g₁,k₁,J₁,r₁,q₁⟩:=h
  exact ⟨ρ₁,σ₁,v₁,g₁,k₁,J₁,.val r₁,q₁⟩
 ·obtain ⟨ρ₁,σ₁,m₁,fl,g₁,k₁,J₁,rf,q₁⟩:=h
  induction rf with
  | next=>exact aO (rr.ok H Γ r ρ₁ σ₁ m₁ s₁ _ X W hfr S hv nf nd J₁ q₁) (fun _ _ h=>h.after g₁ k₁) fun _ _ h=>h.after g₁ k₁
  | brk=>exact ⟨ρ₁,σ₁,m₁,.brk,g₁,k₁,J₁,.brk,q₁⟩
  | ret r=>exact ⟨ρ₁,σ₁,m₁,_,g₁,k₁,J₁,.ret r,q₁⟩
noncomputable def LawR (s:Shared) (r:Result) (s':Shared):Prop:=r=.ok (.ret (.bool true))∧(∀b o,s.heap.get? b=some o→s'.heap.get? b=some o)∧s'.gens=#[]∧s'.os=s.os
theorem law_entry {prog:Program} {w:World} {K:Frag} {mg mb:Str→Option Value} {A:Around} {s:Shared} (S:Stat K) (hsh:lawK K=some lawM) (T:WhC (cx prog w K mg mb s))
  (hfr:A.frames=some []) (hh:A.handled=none) (hroom:RoomC A (d+1)) (hg:s.gens=#[]) {a:Addr} {is:List Int}
  (R:Scr s.heap [] a (is.map .int)) (q:wpSs (wpCall d) (lawBody is) [none,none,none] [] (fun fl _ _=>fl=.ret (.bool true)) (fun _ _ _=>False)):
  codeG (model prog w) A (.call (.ref (fnAt .law)) ⟨[.ref a],[]⟩) (LawR s) s:=by
 refine hide fun Gx hGx=>?_
 obtain ⟨y,hy,h⟩:=Option.bind_eq_some_iff.mp hsh
 obtain ⟨z,_,hz⟩:=fK.mp h
 obtain ⟨o₀,fd,body,ho,hd,D⟩:=(T.A.fns .law).ex
 refine hGx ?_
 have e1:y.o=o₀:=Option.some.inj ((T.A.kin _ _ y.h1).symm.trans ho)
 have e2:y.fd=fd:=by
  have:=y.h2
  rw [e1,hd] at this
  exact (Data.func.inj this).symm
 subst e2
 have e3:y.body=body:=FuncBody.stmts.inj (y.h3.symm.trans D.stmts)
 subst e3
 have hns:=of_decide_eq_true (aL z.ck)
 have hloc:=of_decide_eq_true (aR z.ck)
 have hl:([Value.ref a]).length=y.fd.params.args.length:=by
  have:=congrArg List.length hns
  rw [aK] at this
  exact this.symm
 have hz:z.m=lawM:=hz
 unfold lawBody at q
 rw [←hz] at q
 refine lY (aS (aA (aU _ _) (aU _ _)) hroom.depth) ho hd D.co D.gen D.stmts D.code ?_
 have I:Pre (cx prog w K mg mb s) ⟨A,callEnvC y.fd 0 0,[],[]⟩ [] [] s:=⟨fun _ _ e=>e,rfl,fun i p ao h=>(by cases h),fun i j p q h=>(by cases h),fun p h=>(nomatch h),trivial,fun b h=>(nomatch h),fun b h=>(nomatch h),fun b h=>(nomatch h),hg,rfl⟩
 refine bind_exact (ds:=none) D.plain (by rw [hns];rfl) (fun Q hq=>?_) (enter_sound (C:=cx prog w K mg mb s) (f:=.law) (d:=d) (args:=[none]) T.A D I hfr hh hroom hl rfl (fun i v h=>by
  induction i with
  | zero=>cases h
  | succ i=>cases h) fun s' E hn=>?_)
 ·rcases D.dflt with ⟨_,hd1⟩ | ⟨i,T,oT,n,t,hd0,_⟩
  ·rw [hd1];exact (by unfold seqItems?;exact aC (aI (aI hq)))
  ·cases hd0
 ·have hnm:bindL (callEnvC y.fd s.heap.objs.size (fnAt .law)).kindOf ((y.fd.params.args.map (·.arg)).zip [Value.ref a]) (fun _=>none) jZ=some (.ref a):=bindL_zip (i:=0) D.nsNd (by rw [hns];rfl) rfl hloc
  refine aO (law_exec z (T.H d) E.wf rfl (scOk_of rfl) D.vars D.free D.nd E.inv hn hloc hnm (R.keep E.keep) q) (fun fl s'' h=>?_) fun e s'' h=>?_
  ·obtain ⟨ρ',σ',m',fl',g,k,J',fr,q⟩:=h
   induction fr with
   | next=>exact Fl.noConfusion q
   | brk=>exact Fl.noConfusion q
   | ret rv=>
    cases q
    cases rv
    exact ⟨rfl,J'.base,J'.gens,J'.os⟩
  ·obtain ⟨ρ',σ',m',x,_,_,_,_,q⟩:=h
   exact q.elim
end
end Internal
end
section
namespace Internal
open PySem PySem.W PySem.Calls PyProof.Rows
theorem clean_caller:Clean (⟨.builtin "claim.caller" {},none,none,[],none⟩:Ctx):=⟨by decide+kernel,fun _ h=>nomatch h⟩
theorem thread_endsG {prog:Program} {w:World} {t:Sem Fin} {s:Shared} {R:Result→Shared→Prop} (hreg:s.asleep)
  (h:wpG (model prog w) callerA t (fun fin s'=>∃f,fin=.done f∧(R (.ok f) s'∧leftWithCleanup s'.gens=false)) (fun e s'=>R (.error e) s'∧leftWithCleanup s'.gens=false) s):
  ∃n r s' s'',runN (denote table) prog w n s ⟨t,.builtin "claim.caller" {},default,[]⟩=.halted (outcomeOf r) s'∧
   schedN (denote table) prog w n (.single s ⟨t,.builtin "claim.caller" {},default,[]⟩)=.halted (outcomeOf r) s'∧s'.forget=s''.forget∧R r s'':=by
 have h':Sem.wp (model prog w) ⟨.builtin "claim.caller" {},none,none,[],none⟩ t (Sem.finPost (model prog w) ⟨.builtin "claim.caller" {},none,none,[],none⟩ fun r s'=>R r s'∧leftWithCleanup s'.gens=false)
   (fun e _ s'=>R (.error e) s'∧leftWithCleanup s'.gens=false) default s:=by
  refine fC _ _ t (fun fin p' s' h'=>?_) (fun _ _ _ h'=>h') default s (h _ default caller_in clean_caller)
  obtain ⟨f,rfl,hf⟩:=h'
  exact hf
 refine hide fun Gx hGx=>?_
 obtain ⟨n,r,s₁,s₂,hs,hn,hfo,hR⟩:=wp_halts_full (M:=model prog w) (R:=R) hreg h'
 refine hGx ?_
 exact ⟨n,r,s₂,s₁,hn,hs,hfo,hR⟩
noncomputable abbrev CFe (c:ClaimW) (s:Shared) (args:List WData) (vs:List Value) (s₁:Shared) (kept:Heap→Prop) (r:Result) (s':Shared):Prop:=c.Ends s args vs s₁ r s'∧s'.os=s.os∧kept s'.heap
theorem callFrom_of {c:ClaimW} {tree:List Value→Sem Fin} {w:World} {s:Shared} {free:Addr→Prop} {gens:Prop} {kept:Heap→Prop} (hz:s.asleep) (hgens:s.gens=#[])
  (hspec:∀args,c.pre args=true→WData.layableAll args=true→
   ∀ord:List DictEntry→List DictEntry,(∀l,(ord l).Perm l)→
   ∃vs s₁,layAllW c.records (classAt s.heap) w.params ord args s=some (vs,s₁)∧
    wpG (model c.prog w) callerA (tree vs) (fun fin s'=>∃f,fin=.done f∧(c.Ends s args vs s₁ (.ok f) s'∧s'.os=s.os∧AllBare s'.gens∧kept s'.heap))
     (fun e s'=>c.Ends s args vs s₁ (.error e) s'∧s'.os=s.os∧AllBare s'.gens∧kept s'.heap) s₁):
  c.CallFrom (fun vs=>⟨tree vs,.builtin "claim.caller" {},default,[]⟩) w free gens kept s:=by
 intro args hpre hlay ord hord
 refine hide fun Gx hGx=>?_
 obtain ⟨vs,s₁,hlaid,hcode⟩:=hspec args hpre hlay ord hord
 have hal:=layAllW_rest _ _ _ hlaid
 obtain ⟨k,r,s',s'',hrun,hsched,hfo,hcase,hos,hkp⟩:=thread_endsG (prog:=c.prog) (w:=w) (t:=tree vs) (s:=s₁)
  (R:=CFe c s args vs s₁ kept)
  (Shared.asleep_of_life hal.2.2.2 hz)
  (aO hcode (fun fin s' h=>by
   obtain ⟨f,e,h1,h2,h3,h4⟩:=h
   exact ⟨f,e,⟨h1,h2,h4⟩,leftWithCleanup_false_of_bare h3⟩) (fun e s' h=>by
   obtain ⟨h1,h2,h3,h4⟩:=h
   exact ⟨⟨h1,h2,h4⟩,leftWithCleanup_false_of_bare h3⟩))
 obtain ⟨eh,_,_,eo,_⟩:=Shared.forget_eq hfo
 have hcase:=hcase.congr eh
 have hkp:kept s'.heap:=eh▸hkp
 rw [←eo] at hos
 have hlife:s'.heap.life=s.heap.life:=(runN_life _ _ _ hrun).trans hal.2.2.2
 refine hGx ⟨vs,s₁,hlaid,k,_,s',hsched,?_,(fun _ i x hx=>by rw [hgens] at hx;simp at hx),hkp,by rw [hlife],Shared.rest_eq hos⟩
 rcases hcase with ⟨v,rfl,d1,d2,d3,d4,d5⟩ | ⟨e,ob,cls,rfl,d1,d2,d3,d4,d5⟩
 ·exact .inl ⟨v,rfl,d1,d2,d3,fun b o y _=>d4 b o y,d5⟩
 ·exact .inr ⟨e,ob,cls,rfl,d1,d2,d3,d4,fun b o y _=>d5 b o y⟩
noncomputable abbrev Walk (q:Program) (loose:List Str) (XP:(Str→Option Value)→Heap→Prop) (YP:World→Heap→Prop) (r:RowW):Prop:=
 ∀(w:World) (s₀ s₁:Shared) (mg mb:Str→Option Value),Ground q loose r.records XP w s₀ mg mb s₁.heap→YP w s₁.heap→∀(args:List WData) (vs:List Value) (as:List Addr),
   r.claim.pre args=true→WData.layableAll args=true→Laid r.records w s₀ s₁ args vs as→sysModules < s₀.heap.objs.size→∃f,mg r.name=some f∧
    wpG (model r.prog w) callerA (PySem.call f vs) (fun v s'=>GoodWG r.claim (classAt s₀.heap) (ExcName.means s₀.heap) args s₁ (.ok (.ret v)) s')
     (fun e s'=>GoodWG r.claim (classAt s₀.heap) (ExcName.means s₀.heap) args s₁ (.error e) s') s₁
end Internal
open PySem PySem.W PySem.Calls PyProof.Rows
namespace Mine
open Internal
theorem PySem.W.holds_open {r:OpenRow} {q:Program} {loose:List Str} {Xt:Shared→Bool} {XP:(Str→Option Value)→Heap→Prop} {α:Type} {Yf:Shared→α} {Ya:World→α} {YP:World→Heap→Prop} {d:DefRec} {kwd:List (Str×Expr)} {N:Nat}
  (left:LeftO r.prog q loose Xt Yf Ya N) (hY:∀w s,Yf s=Ya w→YP w s.heap) (hYk:∀w h h',YP w h→(∀b o,h.get? b=some o→h'.get? b=some o)→YP w h')
  (hX:∀s,Xt s=true→XP (s.heap.nsMap mainGlobals) s.heap) (hXk:∀mg h h',XP mg h→(∀b o,h.get? b=some o→h'.get? b=some o)→XP mg h')
  (hdef:defOf q r.name=some (d,kwd)) (hp:r.prog.theDef r.name=some (d.params,d.body,d.scope)) (hk:kwWritten? d.params.kwonlyargs d.params.kw_defaults=some kwd) (hRf:∀s,Xt s=true→RecFacts r.records s.heap) (hwr:(!r.writes || r.records.isEmpty)=true)
  (k1:r.wellSaid=true) (ok:(chainsOk q && opensWell r.prog && (frees r.toRowW && r.within.isEmpty))=true) (hb:r.prog.bare) (hw:r.toRowW.promised)
  (call:Walk q loose XP YP r.toRowW):r.Holds:=by
 refine ⟨k1,hw,?_⟩
 refine hide fun Gx hGx=>?_
 obtain ⟨ok,k5⟩:=fD.mp ok
 obtain ⟨hch,o1⟩:=fD.mp ok
 obtain ⟨k5,k6⟩:=fD.mp k5
 obtain ⟨hsame,hu,ha,hap,hm⟩:=frees_parts k5
 refine hGx ?_
 refine ⟨⟨hb,o1,by show r.makers.map _=[];rw [hm];rfl⟩,hw.witness,fun w=>⟨(left.behind hX hch w).1,fun s' hs'=>?_⟩⟩
 refine hide fun Gx hGx=>?_
 obtain ⟨s₀,hf,hg0,s,hT,hz,hgens,hg,G00,y⟩:=(left.behind (XP:=fun mg h=>XP mg h∧RecFacts r.records h) (fun s hs=>⟨hX s hs,hRf s hs⟩) hch w).2 s' hs'
 refine hGx ?_
 have G0:Ground q loose [] XP w s (s.heap.nsMap mainGlobals) (s.heap.nsMap builtinsNs) s.heap:=⟨G00.T,G00.B,G00.D,G00.TE,G00.TD,G00.W,G00.X.1,G00.cls,G00.has,G00.apart,G00.once,G00.K⟩
 have RF:=G00.X.2
 have hT':=hT
 refine ⟨s₀,hf,hg0,s,hT,fun n hn=>?_,RF.1,RF.2.1,?_⟩
 ·obtain rfl:n=r.name:=by split at hn <;> simp_all
  exact pinned_of_view hg G0 hdef hp hk
 have hgens:s.gens=#[]:=Array.eq_empty_of_size_eq_zero (beq_iff_eq.mp hgens)
 have G:Ground q loose r.records XP w s _ _ s.heap:=RF.ground G0
 show r.toRowW.claim.CallFrom (fun vs=>⟨(do match←nsGet mainNs r.name with
   | some f=>do ret (←PySem.call f vs)
   | none=>unsupported "claim.caller:no-such-global"),.builtin "claim.caller" {},default,[]⟩) w _ _ _ s
 refine callFrom_of (c:=r.toRowW.claim) hz hgens fun args hpre hlay ord hord=>?_
 obtain ⟨⟨vs,s₁⟩,hlaid⟩:=kH.mp (layAllW_isSome (P:=w.params) (ord:=ord) G.has args r.args s (pre_splitW hpre).1)
 have keeps:=layAllW_keeps _ _ _ hlaid
 have hal:=layAllW_rest _ _ _ hlaid
 refine hide fun Gx hGx=>?_
 obtain ⟨as,hrd,hin,hold⟩:=reads_layAllW hord _ _ _ hlaid hlay s₁.heap (fun _ _ e=>e)
 refine hGx ?_
 have L:Laid r.records w s s₁ args vs as:=⟨⟨ord,hord,hlaid⟩,hrd,hin,hold,keeps,hal.1.trans hgens,hal.2.2.1⟩
 have G₁:=G.keeps hXk keeps
 obtain ⟨f,hf,h⟩:=call w s s₁ _ _ G₁ (hYk _ _ _ (hY w s y) keeps) args vs as hpre hlay L G.low
 have hi:=ident_freeW hu ha hap
 have hwi:r.toRowW.claim.within=[]:=List.isEmpty_iff.mp k6
 refine ⟨vs,s₁,hlaid,aM (bV (wpAny_nsGet G₁.T.g ?_))⟩
 rw [hf]
 refine aM (aO h (fun v s' g=>aY ⟨_,rfl,?_⟩) fun e s' g=>?_)
 ·have z:=g.laid (c:=r.toRowW.claim) hsame hwi hi L
  exact ⟨z.1,z.2.1,z.2.2,fun q=>⟨namesKept_of hT' hg r.keeps keeps g.2.1.old,noTable hwr q⟩⟩
 ·have z:=g.laid (c:=r.toRowW.claim) hsame hwi hi L
  exact ⟨z.1,z.2.1,z.2.2,fun q=>⟨namesKept_of hT' hg r.keeps keeps g.2.1.old,noTable hwr q⟩⟩
end Mine
end
section
open PySem PySem.W PySem.Calls PyProof.Rows Builtin
namespace Internal
theorem ints_vr {h:Heap}:∀{vs:List Value} {is:List Int},IntsAre vs is→gQ h [] vs (is.map .int):=by
 intro vs is hI
 induction hI <;> first | exact .nil | (constructor <;> first | assumption | constructor)
theorem walk_of {q:Program} {loose:List Str} {XP:(Str→Option Value)→Heap→Prop} {K:Params→Frag} {ad:List Addr} {e:∀P,ad=(K P).map (·.1)} (st:∀P,Stat (K P)) (sh:∀P,lawK (K P)=some lawM)
  (plain:∀is:List Int,is.length≤63→wpSs (wpCall 30) (lawBody is) [none,none,none] [] (fun fl _ _=>fl=.ret (.bool true)) (fun _ _ _=>False)):
  Walk q loose XP (kHook K ad e).says PySem.Challenge.rw_no0421_01.row.toRowW:=by
 intro w s₀ s₁ mg mb G Y args vs as hpre hlay L low
 have KX:=kIn_of Y
 have hrd:=L.reads
 have hwl:=L.well
 have hlo:=L.low low
 wrow_args hpre hlay hrd hwl hlo
 rename_i is _ _ _ _ _ _ _ a ws _ hL _ _ _ hI _ hlen _
 have S:=st w.params
 have T:WhC (cx PySem.Challenge.rw_no0421_01.row.prog w (K w.params) mg mb s₁):=whole S KX (topRead_of G.T)
 refine hide fun Gx hGx=>?_
 obtain ⟨o,ho,hc,n,hd⟩:=hL
 refine hGx ?_
 have hl:is.length≤63:=by omega
 have r:=ints_vr (h:=s₁.heap) hI
 have hz:ws.toArray.size≤lim:=by
  have:=r.length
  rw [aK] at this
  rw [i7,this,lO];exact aA hl (by decide)
 refine ⟨.ref (fnAt .law),(T.H 0).N.fn _ .law (by kernel_rfl),oR (kY (law_entry S (sh _) T rfl rfl ⟨by decide,by decide⟩ L.gens ⟨o,_,_,ho,hc,hd,hz,r⟩ (plain is hl)) fun r s' h=>?_)⟩
 obtain ⟨rfl,hk,hg,hos⟩:=h
 exact ⟨.inl ⟨.bool true,.bool true,[],rfl,fun _=>rfl,.bool true,by wrow_post,fun _=>⟨.nil,fun _ h=>nomatch h⟩⟩,.of_keep hk,hos,.of_eq hg⟩
end Internal
end
namespace Internal
section
noncomputable abbrev o8 (W:Wp) (r:M) (K:Fl→Lo→aN→Prop) (X:Ex→Lo→aN→Prop):Fl→Lo→aN→Prop:=seqR (wpSs W r · · K X) K
noncomputable abbrev qIf (W:Wp) (t e:M) (m:Lo) (K:Fl→Lo→aN→Prop) (X:Ex→Lo→aN→Prop):Bool→aN→Prop:=ifQ (wpSs W t m · K X) (wpSs W e m · K X)
noncomputable abbrev tryX (W:Wp) (h:M) (x:Ex) (K:Fl→Lo→aN→Prop) (X:Ex→Lo→aN→Prop):Ex→Lo→aN→Prop:=fun y m σ=>ifQ (wpSs W h m · K X) (X y m) (pC y x) σ
noncomputable abbrev qE (W:Wp) (r:M) (m:Lo) (K:Fl→Lo→aN→Prop) (X:Ex→Lo→aN→Prop):V→aN→Prop:=fun _ σ=>wpSs W r m σ K X
noncomputable abbrev qA (W:Wp) (i:Nat) (r:M) (m:Lo) (K:Fl→Lo→aN→Prop) (X:Ex→Lo→aN→Prop):V→aN→Prop:=fun v σ=>wpSs W r (jY m i v) σ K X
noncomputable abbrev qT (W:Wp) (is:List Nat) (r:M) (m:Lo) (K:Fl→Lo→aN→Prop) (X:Ex→Lo→aN→Prop):V→aN→Prop:=fun v σ=>tupQ is.length (fun vs=>wpSs W r (setVs m is vs) σ K X) v
noncomputable abbrev qR (K:Fl→Lo→aN→Prop) (m:Lo):V→aN→Prop:=fun v σ=>K (.ret v) m σ
noncomputable abbrev qAt (W:Wp) (o:M) (n:At) (r:M) (m:Lo) (K:Fl→Lo→aN→Prop) (X:Ex→Lo→aN→Prop):V→aN→Prop:=fun v σ=>wpE W o m σ (fun ov σ=>wpPutA ov n v σ fun σ=>wpSs W r m σ K X) (exX X m)
noncomputable abbrev qWh (W:Wp) (b:M) (m:Lo) (R:Lo→aN→Prop) (K:Fl→Lo→aN→Prop) (X:Ex→Lo→aN→Prop):Bool→aN→Prop:=ifQ (wpSs W b m · (lpK R K) X) (K .next m)
noncomputable abbrev boolQ (Q:V→aN→Prop):Bool→aN→Prop:=fun b σ=>Q (.bool b) σ
noncomputable def bodyF (W:Wp) (b:M) (is:List Nat) (one:Bool) (X:Ex→Lo→aN→Prop):V→Lo→aN→(Fl→Lo→aN→Prop)→Prop:=fun v m σ K=>BdR m is one (fun m σ K=>wpSs W b m σ K X) v σ K
noncomputable abbrev qF (W:Wp) (is:List Nat) (one:Bool) (b r:M) (m:Lo) (K:Fl→Lo→aN→Prop) (X:Ex→Lo→aN→Prop):V→aN→Prop:=fun iv σ=>∃n,forN iv is one (fun m σ K=>wpSs W b m σ K X) (o8 W r K X) n 0 m σ
noncomputable abbrev sK (K:Option V→aN→Prop):V→aN→Prop:=fun w σ=>K (some w) σ
noncomputable def bodyC (W:Wp) (elt:M) (tg:Nat) (ifs:M) (caps:List Nat) (m:Lo):V→aN→(Option V→aN→Prop)→Prop:=fun v σ K=>
 BdR (blkLo m tg caps) (List.range (max tg 1)) (tg==0) (fun m' σ K=>wpA W ifs m' σ (ifQ (wpE W elt m' · (sK K) noX) (K .none)) noX) v σ K
noncomputable abbrev qC (W:Wp) (elt:M) (tg:Nat) (ifs:M) (caps:List Nat) (m:Lo) (Q:V→aN→Prop):V→aN→Prop:=fun iv σ=>∃n,compN iv (blkLo m tg caps) tg (fun m' σ K=>wpA W ifs m' σ (ifQ (wpE W elt m' · (sK K) noX) (K .none)) noX) (finC Q) n 0 [] σ
noncomputable abbrev qRg (Q:V→aN→Prop):V→aN→Prop:=fun v σ=>intQ (fun n=>(0≤n∧n≤lim)∧Q (.rng n) σ) v
noncomputable def attO (n:At):AO→Option V
 | .inst _ l=>getA n l
 | _=>none
noncomputable def methO (n:Mt):AO→Option Fn
 | .inst c _=>methOf c n
 | _=>none
noncomputable def nK (n:At) (v:V):AO→AO
 | .inst c l=>.inst c (putA n v l)
 | o=>o
noncomputable def roomO:AO→Bool
 | .inst _ l=>Nat.ble l.length 100
 | _=>false
theorem jB {α:Type} {o:Option α} {P:α→Prop} {v:α} (h:o=some v) (q:P v):optP o P:=by subst h;exact q
structure Ev (m:Lo) (σ:aN) (e:M) (v:V):Prop where
 run:∀{W:Wp} {Q:V→aN→Prop} {X:Ex→aN→Prop},Q v σ→wpE W e m σ Q X
structure iB (m:Lo) (σ:aN) (l:M) (vs:List V):Prop where
 run:∀{W:Wp} {Q:List V→aN→Prop} {X:Ex→aN→Prop},Q vs σ→wpL W l m σ Q X
structure EvF (m:Lo) (σ:aN) (l:M):Prop where
 run:∀{W:Wp} {Q:aN→Prop} {X:Ex→aN→Prop},Q σ→wpF W l m σ Q X
structure nI (m:Lo) (σ:aN) (c:M) (b:Bool):Prop where
 run:∀{W:Wp} {k:Bool→aN→Prop} {X:Ex→aN→Prop},k b σ→wpT W c m σ (fun K=>wpE W c m σ K X) k X
structure eI (op:COp) (x y:V) (σ:aN) (b:Bool):Prop where
 run:∀{k:Bool→Prop},k b→wpCmp op x y σ k
structure gF (op:BOp) (x y v:V):Prop where
 run:∀{σ:aN} {Q:V→aN→Prop},Q v σ→mQ op x y σ Q
section
variable {m:Lo} {σ:aN} {a b c e l:M} {v w x y:V} {vs ws:List V} {i j k:Int} {p q:Nat} {op:COp} {bo:BOp} {n:At} {o:AO} {B D:Bool} {bs cs:List Nat}
theorem Ev.cast (h:Ev m σ e v) (q:v=w):Ev m σ e w:=q▸h
theorem aB {p:Nat} (h:cD m p=some v):Ev m σ (.loc p) v:=⟨fun q=>jB h q⟩
theorem eW:Ev m σ .cN .none:=⟨fun q=>q⟩
theorem ev_b:Ev m σ (.cB B) (.bool B):=⟨fun q=>q⟩
theorem aH:Ev m σ (.cI i) (.int i):=⟨fun q=>q⟩
theorem ev_s:Ev m σ .cS .str:=⟨fun q=>q⟩
theorem ev_y:Ev m σ (.cY bs) (.bytes bs):=⟨fun q=>q⟩
theorem iX {p:Nat} (h:globV p=some v):Ev m σ (.glob p) v:=⟨fun q=>jB h q⟩
theorem a9 {p:Nat} (ha:Ev m σ a (.obj p)) (hi:σ[p]? =some o) (h:attO n o=some v):Ev m σ (.attr a n) v:=by
 induction o with
 | inst c kvs=>exact ⟨fun q=>ha.run (.mk hi h q)⟩
 | _=>cases h
theorem cQ (ha:Ev m σ a (.tup vs)) (hb:Ev m σ b (.int i)) (h:nth vs i=some v):Ev m σ (.idx a b) v:=⟨fun q=>ha.run (hb.run (.tup h q))⟩
theorem kJ (ha:Ev m σ a (.bytes bs)) (hb:Ev m σ b (.int i)) {p:Nat} (h:nth bs i=some p):Ev m σ (.idx a b) (.int p):=⟨fun q=>ha.run (hb.run (.bytes h q))⟩
theorem iL {p:Nat} (ha:Ev m σ a (.obj p)) (hi:σ[p]? =some (.list vs)) (hb:Ev m σ b (.int i)) (h:nth vs i=some v):Ev m σ (.idx a b) v:=⟨fun q=>ha.run (hb.run (.obj hi h q))⟩
theorem gM (ha:Ev m σ a (.bytes bs)):Ev m σ (.blt .len (.cons a .nil)) (.int bs.length):=⟨fun q=>ha.run (.lenB q)⟩
theorem ev_lt (ha:Ev m σ a (.tup vs)):Ev m σ (.blt .len (.cons a .nil)) (.int vs.length):=⟨fun q=>ha.run (.lenT q)⟩
theorem ev_lo {p:Nat} (ha:Ev m σ a (.obj p)) (hi:σ[p]? =some (.list vs)):Ev m σ (.blt .len (.cons a .nil)) (.int vs.length):=⟨fun q=>ha.run (.lenL hi q)⟩
theorem oW {p:Nat} (ha:Ev m σ a (.obj p)) (hi:σ[p]? =some (.list vs)):Ev m σ (.blt .tuple (.cons a .nil)) (.tup vs):=⟨fun q=>ha.run (.tup hi q)⟩
theorem ev_by (ha:Ev m σ a (.bytes bs)):Ev m σ (.blt .bytes (.cons a .nil)) (.bytes bs):=⟨fun q=>ha.run (.byB q)⟩
theorem ev_bb {p:Nat} (ha:Ev m σ a (.obj p)) (hi:σ[p]? =some (.barr bs)):Ev m σ (.blt .bytes (.cons a .nil)) (.bytes bs):=⟨fun q=>ha.run (.byA hi q)⟩
theorem ev_mi (ha:Ev m σ a (.int i)) (hb:Ev m σ b (.int j)):Ev m σ (.blt .min (.cons a (.cons b .nil))) (.int (min i j)):=⟨fun q=>ha.run (hb.run (.min q))⟩
theorem ev_ng (ha:Ev m σ a (.int i)):Ev m σ (.neg a) (.int (-i)):=⟨fun q=>ha.run q⟩
theorem b8 (ha:Ev m σ a x) (hb:Ev m σ b y) (h:gF bo x y v):Ev m σ (.bin bo a b) v:=⟨fun q=>ha.run (hb.run (h.run q))⟩
theorem ev_c (ha:Ev m σ a x) (hb:Ev m σ b y) (h:eI op x y σ B):Ev m σ (.cmp op a b) (.bool B):=⟨fun q=>ha.run (hb.run (h.run q))⟩
theorem fJ (hl:iB m σ l vs) (h:Nat.ble vs.length 100=true):Ev m σ (.tup l) (.tup vs):=⟨fun q=>hl.run ⟨aA (bG h) (bG rfl),q⟩⟩
theorem ev_f (h:EvF m σ l):Ev m σ (.fstr l) .str:=⟨fun q=>h.run q⟩
theorem ev_ift (hc:nI m σ c true) (h:Ev m σ a v):Ev m σ (.ife c a b) v:=⟨fun q=>hc.run (h.run q)⟩
theorem ev_iff (hc:nI m σ c false) (h:Ev m σ b v):Ev m σ (.ife c a b) v:=⟨fun q=>hc.run (h.run q)⟩
theorem aG:iB m σ .nil []:=⟨fun q=>q⟩
theorem aD (ha:Ev m σ a v) (hl:iB m σ l vs):iB m σ (.cons a l) (v::vs):=⟨fun q=>ha.run (hl.run q)⟩
theorem ef_n:EvF m σ .nil:=⟨fun q=>q⟩
theorem ef_s (h:EvF m σ l):EvF m σ (.cons .cS l):=⟨fun q=>h.run q⟩
theorem ef_i (hw:∀{W:Wp} {Q:aN→Prop} {X:Ex→aN→Prop},wpF W (.cons a l) m σ Q X=wpE W a m σ (fun v σ=>intQ (fun i=>i.natAbs < 2 ^ 128∧wpF W l m σ Q X) v) X) (ha:Ev m σ a (.int i)) (hb:i.natAbs < 2 ^ 128) (h:EvF m σ l):EvF m σ (.cons a l):=⟨fun q=>hw▸ha.run ⟨hb,h.run q⟩⟩
theorem lX {k:Nat} (hw:∀{W:Wp} {Q:aN→Prop} {X:Ex→aN→Prop},wpF W (.cons a l) m σ Q X=wpE W a m σ (fun v σ=>intQ (fun i=>i.natAbs < 2 ^ 128∧wpF W l m σ Q X) v) X) (ha:Ev m σ a (.int k)) (hb:k < 2 ^ 128) (h:EvF m σ l):EvF m σ (.cons a l):=ef_i hw ha hb h
theorem b_add:gF .add (.int i) (.int j) (.int (i+j)):=⟨.add⟩
theorem b_sub:gF .sub (.int i) (.int j) (.int (i - j)):=⟨.sub⟩
theorem b_mul (h:i.natAbs < 2 ^ 64∨j.natAbs < 2 ^ 64):gF .mul (.int i) (.int j) (.int (i*j)):=⟨.mul h⟩
theorem b_div (h:0 < j) (h2:j.natAbs < 2 ^ 100):gF .fdiv (.int i) (.int j) (.int (i / j)):=⟨.div h h2⟩
theorem b_mod (h:0 < j):gF .mod (.int i) (.int j) (.int (i % j)):=⟨.mod h⟩
theorem b_pow (h:0≤j) (h2:j≤64) (h3:i.natAbs < 2 ^ 64):gF .pow (.int i) (.int j) (.int (i ^ j.toNat)):=⟨.pow h h2 h3⟩
theorem b_and:gF .band (.int p) (.int q) (.int ((p &&& q:Nat):Int)):=⟨.and⟩
theorem b_or:gF .bor (.int p) (.int q) (.int ((p ||| q:Nat):Int)):=⟨.or⟩
theorem b_shl (h:q≤1000) (h2:p < 2 ^ 64):gF .shl (.int p) (.int q) (.int ((p*2 ^ q:Nat):Int)):=⟨fun r=>.shl (aV _) (cC.mpr h) h2 (by
 rw [dJ,show (p:Int)*2 ^ q=((p*2 ^ q:Nat):Int) by rw [Int.natCast_mul,Int.natCast_pow];rfl];exact r)⟩
theorem b_shr:gF .shr (.int p) (.int q) (.int ((p / 2 ^ q:Nat):Int)):=⟨fun r=>.shr (aV _) (by
 rw [dJ,show (p:Int) / 2 ^ q=((p / 2 ^ q:Nat):Int) by rw [Int.natCast_ediv,Int.natCast_pow];rfl];exact r)⟩
theorem kA (h:0 < q) (h2:q < 2 ^ 100):gF .fdiv (.int p) (.int q) (.int ((p / q:Nat):Int)):=⟨fun r=>.div (bH.mpr h) h2 r⟩
theorem dU (h:0 < q):gF .mod (.int p) (.int q) (.int ((p % q:Nat):Int)):=⟨fun r=>.mod (bH.mpr h) r⟩
theorem cE:gF .add (.int p) (.int q) (.int ((p+q:Nat):Int)):=⟨fun r=>.add r⟩
theorem b_mulN (h:p < 2 ^ 64):gF .mul (.int p) (.int q) (.int ((p*q:Nat):Int)):=⟨fun r=>.mul (x:=(p:Int)) (.inl h) r⟩
theorem b_powN (h:q≤64) (h2:p < 2 ^ 64):gF .pow (.int p) (.int q) (.int ((p ^ q:Nat):Int)):=⟨fun r=>.pow (aV _) (cC.mpr h) h2 (by
 rw [dJ,←Int.natCast_pow];exact r)⟩
theorem nA (h:bs.length+cs.length≤lim):gF .add (.bytes bs) (.bytes cs) (.bytes (bs++cs)):=⟨.addB h⟩
theorem b_addb:gF .add (.bool B) (.int 0) (.int B.toNat):=⟨fun q=>.addF (by cases B <;> exact q)⟩
theorem kb {k:Bool→Prop} {a b:Bool} (h:a=b) (q:k b):k a:=h▸q
theorem dR (h:decide (i=j)=B):eI .eq (.int i) (.int j) σ B:=⟨fun {k} q=>.eqI (kb (k:=k) h q)⟩
theorem c_neI (h:(!decide (i=j))=B):eI .ne (.int i) (.int j) σ B:=⟨fun {k} q=>.neI (kb (k:=k) h q)⟩
theorem d0 (h:decide (i < j)=B):eI .lt (.int i) (.int j) σ B:=⟨fun {k} q=>.ltI (kb (k:=k) h q)⟩
theorem c_leI (h:decide (i≤j)=B):eI .le (.int i) (.int j) σ B:=⟨fun {k} q=>.leI (kb (k:=k) h q)⟩
theorem eS (h:decide (j < i)=B):eI .gt (.int i) (.int j) σ B:=⟨fun {k} q=>.gtI (kb (k:=k) h q)⟩
theorem iN (h:decide (j≤i)=B):eI .ge (.int i) (.int j) σ B:=⟨fun {k} q=>.geI (kb (k:=k) h q)⟩
theorem c_neB:eI .ne (.bytes bs) (.bytes bs) σ false:=⟨.neP rfl⟩
theorem c_neT (h:V.pure 20 (.tup vs)=true):eI .ne (.tup vs) (.tup vs) σ false:=⟨.neP h⟩
theorem c_eqb (h:B=D):eI .eq (.bool B) (.bool D) σ true:=⟨fun q=>h▸.eqP rfl q⟩
theorem c_neL {p r:Nat} (hi:σ[p]? =some (.list vs)) (hj:σ[r]? =some (.list vs)) (h:vs.all (V.pure 20)=true):eI .ne (.obj p) (.obj r) σ false:=⟨.neL hi hj h⟩
theorem c_ltB:eI .lt (.bytes bs) (.bytes cs) σ (ltB bs cs):=⟨.ltB⟩
theorem c_isN:eI .is .none .none σ true:=⟨fun q=>.is q⟩
theorem c_isO {p:Nat}:eI .is (.obj p) .none σ false:=⟨fun q=>.is q⟩
theorem c_isB:eI .is (.bytes bs) .none σ false:=⟨fun q=>.is q⟩
theorem c_isT:eI .is (.tup vs) .none σ false:=⟨fun q=>.is q⟩
theorem fA:eI .isNot .none .none σ false:=⟨fun q=>.isn q⟩
theorem c_isnO {p:Nat}:eI .isNot (.obj p) .none σ true:=⟨fun q=>.isn q⟩
theorem c_isnB:eI .isNot (.bytes bs) .none σ true:=⟨fun q=>.isn q⟩
theorem c_isnT:eI .isNot (.tup vs) .none σ true:=⟨fun q=>.isn q⟩
theorem nlt {p q:Nat} (h:¬p < q):¬(p:Int) < (q:Int):=fun z=>h (bH.mp z)
theorem nle {p q:Nat} (h:¬p≤q):¬(p:Int)≤(q:Int):=fun z=>h (cC.mp z)
theorem neq {p q:Nat} (h:¬p=q):¬(p:Int)=(q:Int):=fun z=>h (Int.ofNat.inj z)
theorem nneg {p:Nat}:¬(p:Int) < 0:=gP.mpr (aV p)
theorem eI.rT {k:Bool→Prop} (h:eI op x y σ true) (q:k true):wpCmp op x y σ k:=h.run q
theorem eI.rF {k:Bool→Prop} (h:eI op x y σ false) (q:k false):wpCmp op x y σ k:=h.run q
theorem dH (ha:Ev m σ a x) (hb:Ev m σ b y) (h:eI op x y σ B):nI m σ (.cmp op a b) B:=⟨fun q=>ha.run (hb.run (h.run q))⟩
theorem t_not (h:nI m σ a B):nI m σ (.not a) (!B):=⟨fun q=>h.run q⟩
theorem t_nt (h:nI m σ a false):nI m σ (.not a) true:=⟨fun q=>h.run q⟩
theorem t_nf (h:nI m σ a true):nI m σ (.not a) false:=⟨fun q=>h.run q⟩
theorem iF {A B:aN→Prop} (h:B σ):ifQ A B false σ:=h
theorem iT {A B:aN→Prop} (h:A σ):ifQ A B true σ:=h
theorem i8 (ha:nI m σ a true) (hb:nI m σ b B):nI m σ (.and a b) B:=⟨fun q=>ha.run (hb.run q)⟩
theorem t_anf (ha:nI m σ a false):nI m σ (.and a b) false:=⟨fun q=>ha.run q⟩
theorem t_or (ha:nI m σ a false) (hb:nI m σ b B):nI m σ (.or a b) B:=⟨fun q=>ha.run (hb.run q)⟩
theorem t_ort (ha:nI m σ a true):nI m σ (.or a b) true:=⟨fun q=>ha.run q⟩
theorem t_lb {p:Nat} (h:cD m p=some (.bool B)):nI m σ (.loc p) B:=⟨fun q=>jB h (.bool q)⟩
theorem t_lyT {p:Nat} (h:cD m p=some (.bytes bs)) (hb:(!bs.isEmpty)=B):nI m σ (.loc p) B:=⟨fun {W k X} q=>jB (P:=fun v=>l7 v σ fun b=>k b σ) h (.bytes (kb (k:=fun b=>k b σ) hb q))⟩
theorem t_loT {p r:Nat} (h:cD m p=some (.obj r)) (hi:σ[r]? =some (.list vs)) (hb:(!vs.isEmpty)=B):nI m σ (.loc p) B:=⟨fun {W k X} q=>jB (P:=fun v=>l7 v σ fun b=>k b σ) h (.obj hi (kb (k:=fun b=>k b σ) hb q))⟩
theorem nI.cast (h:nI m σ c B) (q:B=D):nI m σ c D:=q▸h
end
section
variable {W:Wp} {d:Nat} {f:Fn} {args vs:List V} {m:Lo} {σ:aN} {s r t e o l c b it:M} {v:V} {K:Fl→Lo→aN→Prop} {X:Ex→Lo→aN→Prop} {is:List Nat} {n:At} {x:Ex} {one:Bool}
theorem ent {Q:V→aN→Prop} {X:Ex→aN→Prop} (m:Lo) (hm:f.info.start args=some m) (hb:f.info.body=.cons s r) (h:wpSs (wpCall d) (.cons s r) m σ (mV Q) (exK X)):wpCall (d+1) f args σ Q X:=⟨m,hm,hb▸h⟩
theorem s0 (h:K .next m σ):wpSs W .nil m σ K X:=h
theorem s0q {W':Wp} {X':Ex→Lo→aN→Prop} (h:wpSs W r m σ K X):wpSs W' .nil m σ (o8 W r K X) X':=h
theorem sE (h:wpE W e m σ (qE W r m K X) (exX X m)):wpSs W (.cons (.sE e) r) m σ K X:=h
theorem sA {i:Nat} (h:wpE W e m σ (qA W i r m K X) (exX X m)):wpSs W (.cons (.sA i e) r) m σ K X:=h
theorem sT (h:wpE W e m σ (qT W is r m K X) (exX X m)):wpSs W (.cons (.sT is e) r) m σ K X:=h
theorem pT (hl:vs.length=is.length) (h:wpSs W r (setVs m is vs) σ K X):qT W is r m K X (.tup vs) σ:=⟨hl,h⟩
theorem sAt (h:wpE W e m σ (qAt W o n r m K X) (exX X m)):wpSs W (.cons (.sAt o n e) r) m σ K X:=h
theorem jR {p:Nat} {a:AO} (ho:Ev m σ o (.obj p)) (hi:σ[p]? =some a) (hr:roomO a=true) {σ':aN} (hs:σ.set p (nK n v a)=σ') (h:wpSs W r m σ' K X):qAt W o n r m K X v σ:=by
 subst hs
 induction a with
 | inst c kvs=>exact ho.run (.mk hi (bG hr) h)
 | _=>cases hr
theorem sR (h:wpE W e m σ (qR K m) (exX X m)):wpSs W (.cons (.sR e) r) m σ K X:=h
theorem sR0 (h:K (.ret .none) m σ):wpSs W (.cons .sR0 r) m σ K X:=h
theorem sX (h:wpL W l m σ (fun vs σ=>vs.length≤100∧X x m σ) (exX X m)):wpSs W (.cons (.sX x l) r) m σ K X:=h
theorem sX1 (h:Ev m σ e v) (q:X x m σ):wpSs W (.cons (.sX x (.cons e .nil)) r) m σ K X:=h.run ⟨bG rfl,q⟩
theorem sI (h:wpT W c m σ (fun K=>wpE W c m σ K (exX X m)) (qIf W t e m (o8 W r K X) X) (exX X m)):wpSs W (.cons (.sIf c t e) r) m σ K X:=h
theorem mU (hc:nI m σ c true) (h:wpSs W t m σ (o8 W r K X) X):wpSs W (.cons (.sIf c t e) r) m σ K X:=hc.run h
theorem sIf (hc:nI m σ c false) (h:wpSs W e m σ (o8 W r K X) X):wpSs W (.cons (.sIf c t e) r) m σ K X:=hc.run h
theorem iV (hc:nI m σ c false) (h:wpSs W r m σ K X):wpSs W (.cons (.sIf c t .nil) r) m σ K X:=hc.run h
theorem pIt (h:wpSs W t m σ K X):qIf W t e m K X true σ:=h
theorem pIf (h:wpSs W e m σ K X):qIf W t e m K X false σ:=h
theorem pI0 {K:Fl→Lo→aN→Prop} {X:Ex→Lo→aN→Prop} (h:wpSs W r m σ K X):qIf W t .nil m (o8 W r K X) X false σ:=h
theorem sTr (h:wpSs W b m σ (o8 W r K X) (tryX W e x (o8 W r K X) X)):wpSs W (.cons (.sTry b x e) r) m σ K X:=h
theorem pTr {y:Ex} (hs:pC y x=true) (h:wpSs W e m σ K X):tryX W e x K X y m σ:=by unfold tryX;rw [hs];exact h
theorem sP (h:wpSs W r m σ K X):wpSs W (.cons .sP r) m σ K X:=h
theorem sB (h:K .brk m σ):wpSs W (.cons .sBrk r) m σ K X:=h
theorem sG {i:Nat} {op:BOp} {a b:Int} {e:M} {v:V} (ha:cD m i=some (.int a)) (he:Ev m σ e (.int b)) (h:gF op (.int a) (.int b) v) (q:wpSs W r (jY m i v) σ K X):wpSs W (.cons (.sG i op e) r) m σ K X:=jB ha (he.run (h.run q))
theorem sGc {i:Nat} {op:BOp} {a:Int} (ha:cD m i=some (.int a)) (h:wpE W e m σ (fun v σ=>intQ (fun w=>mQ op (.int a) (.int w) σ fun v σ=>wpSs W r (jY m i v) σ K X) v) (exX X m)):wpSs W (.cons (.sG i op e) r) m σ K X:=jB ha h
theorem sGA {p:Nat} {a:AO} {op:BOp} {i j:Int} {e:M} {v:V} (ho:Ev m σ o (.obj p)) (hi:σ[p]? =some a) (ha:attO n a=some (.int i)) (he:Ev m σ e (.int j)) (h:gF op (.int i) (.int j) v) (hr:roomO a=true) {σ':aN} (hs:σ.set p (nK n v a)=σ') (q:wpSs W r m σ' K X):wpSs W (.cons (.sGA o n op e) r) m σ K X:=by
 subst hs
 induction a with
 | inst c kvs=>exact ho.run (.mk hi ha (he.run (h.run (.mk hi (bG hr) q))))
 | _=>cases hr
theorem sIx {p:Nat} {i e:M} {j:Nat} (he:Ev m σ e v) (ho:Ev m σ o (.obj p)) (hi:Ev m σ i (.int j)) (h:σ[p]? =some (.list vs)) (hj:j < vs.length) {σ':aN} (hs:σ.set p (.list (vs.set j v))=σ') (q:wpSs W r m σ' K X):wpSs W (.cons (.sIx o i e) r) m σ K X:=by
 subst hs
 exact he.run (ho.run (hi.run (.mk h hj q)))
end
section
variable {W:Wp} {m:Lo} {σ:aN} {a b c e l o it:M} {v w:V} {vs:List V} {Q:V→aN→Prop} {X:Ex→aN→Prop} {f:Fn} {p:Nat} {ao:AO} {bs cs:List Nat}
theorem aP (hl:iB m σ l vs) (q:W f vs σ Q X):wpE W (.call f l) m σ Q X:=hl.run q
theorem cM (q:wpL W l m σ (fun vs σ=>W f vs σ Q X) X):wpE W (.call f l) m σ Q X:=q
theorem eQ {c:Cls} (hl:iB m σ l vs) (q:W c.init (.obj σ.length::vs) (σ++[.inst c []]) (newQ Q σ.length) noX):wpE W (.new c l) m σ Q X:=hl.run q
theorem e_newc {c:Cls} (q:wpL W l m σ (fun vs σ=>W c.init (.obj σ.length::vs) (σ++[.inst c []]) (newQ Q σ.length) noX) X):wpE W (.new c l) m σ Q X:=q
theorem nq {n:Nat} (q:Q (.obj n) σ):newQ Q n .none σ:=⟨rfl,q⟩
noncomputable abbrev qM (W:Wp) (n:Mt) (l:M) (m:Lo) (Q:V→aN→Prop) (X:Ex→aN→Prop):V→aN→Prop:=fun ov σ=>WMeth W σ (fun R=>wpL W l m σ R X) Q X n ov
theorem mC {n:Mt} (q:wpE W o m σ (qM W n l m Q X) X):wpE W (.meth o n l) m σ Q X:=q
theorem p_methc {n:Mt} (hi:σ[p]? =some ao) (hm:methO n ao=some f) (q:wpL W l m σ (fun vs σ=>W f (.obj p::vs) σ Q X) X):qM W n l m Q X (.obj p) σ:=by
 induction ao with
 | inst c kvs=>exact .own hi hm q
 | _=>cases hm
theorem p_meth {n:Mt} (hi:σ[p]? =some ao) (hm:methO n ao=some f) (hl:iB m σ l vs) (q:W f (.obj p::vs) σ Q X):qM W n l m Q X (.obj p) σ:=p_methc hi hm (hl.run q)
theorem aZ {n:Mt} (ho:Ev m σ o (.obj p)) (hi:σ[p]? =some ao) (hm:methO n ao=some f) (hl:iB m σ l vs) (q:W f (.obj p::vs) σ Q X):wpE W (.meth o n l) m σ Q X:=mC (ho.run (p_meth hi hm hl q))
theorem e_meth1 {n:Mt} (ho:Ev m σ o (.obj p)) (hi:σ[p]? =some ao) (hm:methO n ao=some f) (q:wpL W l m σ (fun vs σ=>W f (.obj p::vs) σ Q X) X):wpE W (.meth o n l) m σ Q X:=mC (ho.run (p_methc hi hm q))
theorem e_app1 (ho:Ev m σ o (.obj p)) {xs:List V} (hi:σ[p]? =some (.list xs)) (ha:Ev m σ a v) (hz:xs.length < lim) {σ':aN} (hs:σ.set p (.list (xs++[v]))=σ') (q:Q .none σ'):wpE W (.meth o .append (.cons a .nil)) m σ Q X:=mC (ho.run (.app hi (ha.run (.mk hi hz (hs▸q)))))
noncomputable abbrev qAppc (p:Nat) (Q:V→aN→Prop):List V→aN→Prop:=fun vs σ=>LApp p Q σ vs
theorem e_appc (ho:Ev m σ o (.obj p)) {xs:List V} (hi:σ[p]? =some (.list xs)) (q:wpE W a m σ (fun v σ=>qAppc p Q [v] σ) X):wpE W (.meth o .append (.cons a .nil)) m σ Q X:=mC (ho.run (.app hi q))
theorem p_app {xs:List V} (hi:σ[p]? =some (.list xs)) (hz:xs.length < lim) {σ':aN} (hs:σ.set p (.list (xs++[v]))=σ') (q:Q .none σ'):qAppc p Q [v] σ:=.mk hi hz (hs▸q)
theorem e_bapp (ho:Ev m σ o (.obj p)) (hi:σ[p]? =some (.barr bs)) {k:Nat} (ha:Ev m σ a (.int k)) (hz:bs.length < lim) (hk:k < 256) {σ':aN} (hs:σ.set p (.barr (bs++[k]))=σ') (q:Q .none σ'):wpE W (.meth o .append (.cons a .nil)) m σ Q X:=mC (ho.run (.bapp hi (ha.run (.mk hi hz hk (hs▸q)))))
noncomputable abbrev qExt (p:Nat) (Q:V→aN→Prop):V→aN→Prop:=fun w σ=>BExt p Q σ [w]
theorem e_ext (ho:Ev m σ o (.obj p)) (hi:σ[p]? =some (.barr bs)) (q:wpE W a m σ (qExt p Q) X):wpE W (.meth o .extend (.cons a .nil)) m σ Q X:=mC (ho.run (.bext hi q))
theorem p_ext (hi:σ[p]? =some (.barr bs)) (hz:bs.length+cs.length≤lim) {σ':aN} (hs:σ.set p (.barr (bs++cs))=σ') (q:Q .none σ'):qExt p Q (.bytes cs) σ:=.mk hi hz (hs▸q)
theorem e_lst (hl:iB m σ l vs) (h:vs.length≤lim) (q:Q (.obj σ.length) (σ++[.list vs])):wpE W (.lst l) m σ Q X:=hl.run ⟨h,q⟩
theorem eA (hl:iB m σ l vs) (h:Nat.ble vs.length 100=true) (q:Q (.obj σ.length) (σ++[.list vs])):wpE W (.lst l) m σ Q X:=hl.run ⟨aA (bG h) (bG rfl),q⟩
theorem e_lstc (q:wpL W l m σ (qLs Q) X):wpE W (.lst l) m σ Q X:=q
theorem lR (q:wpL W l m σ (qTu Q) X):wpE W (.tup l) m σ Q X:=q
theorem p_ls (h:Nat.ble vs.length 100=true) (q:Q (.obj σ.length) (σ++[.list vs])):qLs Q vs σ:=⟨aA (bG h) (bG rfl),q⟩
theorem p_tu (h:Nat.ble vs.length 100=true) (q:Q (.tup vs) σ):qTu Q vs σ:=⟨aA (bG h) (bG rfl),q⟩
theorem e_ba (q:Q (.obj σ.length) (σ++[.barr []])):wpE W (.blt .bytearray .nil) m σ Q X:=.barr q
theorem cR {op:BOp} (q:wpE W a m σ (fun x σ=>wpE W b m σ (fun y σ=>mQ op x y σ Q) X) X):wpE W (.bin op a b) m σ Q X:=q
theorem e_cmp {op:COp} (q:wpE W a m σ (fun x σ=>wpE W b m σ (fun y σ=>wpCmp op x y σ fun b=>Q (.bool b) σ) X) X):wpE W (.cmp op a b) m σ Q X:=q
theorem eP {op:COp} {A:(V→aN→Prop)→Prop} {k:Bool→aN→Prop} (q:wpE W a m σ (fun x σ=>wpE W b m σ (fun y σ=>wpCmp op x y σ fun b=>k b σ) X) X):wpT W (.cmp op a b) m σ A k X:=q
theorem e_attr {n:At} (q:wpE W a m σ (fun x σ=>wpAttr x n σ fun w=>Q w σ) X):wpE W (.attr a n) m σ Q X:=q
theorem e_idx (q:wpE W a m σ (fun x σ=>wpE W b m σ (fun y σ=>wpIdx x y σ fun w=>Q w σ) X) X):wpE W (.idx a b) m σ Q X:=q
theorem e_slc {lo hi:M} (q:wpE W a m σ (fun x σ=>wpO W lo m σ (fun l σ=>wpO W hi m σ (fun h σ=>wpSlc x l h σ Q) X) X) X):wpE W (.slc a lo hi) m σ Q X:=q
noncomputable abbrev qB (f:Bt) (Q:V→aN→Prop):V→aN→Prop:=fun v σ=>wpBlt f [v] σ Q
theorem fH {f:Bt} (q:wpE W a m σ (qB f Q) X):wpE W (.blt f (.cons a .nil)) m σ Q X:=q
theorem p_len (q:Q (.int bs.length) σ):qB .len Q (.bytes bs) σ:=.lenB q
theorem p_lent (q:Q (.int vs.length) σ):qB .len Q (.tup vs) σ:=.lenT q
theorem p_leno (hi:σ[p]? =some (.list vs)) (q:Q (.int vs.length) σ):qB .len Q (.obj p) σ:=.lenL hi q
theorem p_tup (hi:σ[p]? =some (.list vs)) (q:Q (.tup vs) σ):qB .tuple Q (.obj p) σ:=.tup hi q
theorem p_byt (q:Q (.bytes bs) σ):qB .bytes Q (.bytes bs) σ:=.byB q
theorem p_bys {ns:List Int} (h:σ[p]? =some (.list (ns.map V.int))) (hr:∀n∈ns,0≤n∧n < 256) (q:Q (.bytes (ns.map Int.toNat)) σ):qB .bytes Q (.obj p) σ:=.byL h hr q
theorem e_fstr (q:wpF W l m σ (fun σ=>Q .str σ) X):wpE W (.fstr l) m σ Q X:=q
theorem p_srt {ns:List Int} (h:σ[p]? =some (.list (ns.map V.int))) (hn:ns.length≤16) (q:Q (.obj σ.length) (σ++[.list ((ns.foldl (fun l a=>jE a l) []).map V.int)])):qB .sorted Q (.obj p) σ:=.srt h hn q
noncomputable abbrev qOr (W:Wp) (b:M) (m:Lo) (k:Bool→aN→Prop) (X:Ex→aN→Prop):Bool→aN→Prop:=ifQ (k true) (fun σ=>wpT W b m σ (fun K=>wpE W b m σ K X) k X)
noncomputable abbrev qAn (W:Wp) (b:M) (m:Lo) (k:Bool→aN→Prop) (X:Ex→aN→Prop):Bool→aN→Prop:=ifQ (fun σ=>wpT W b m σ (fun K=>wpE W b m σ K X) k X) (k false)
noncomputable abbrev qNo (k:Bool→aN→Prop):Bool→aN→Prop:=fun b σ=>k (!b) σ
section
variable {A:(V→aN→Prop)→Prop} {k:Bool→aN→Prop}
theorem nI.rT (h:nI m σ c true) (q:k true σ):wpT W c m σ (fun K=>wpE W c m σ K X) k X:=h.run q
theorem nI.rF (h:nI m σ c false) (q:k false σ):wpT W c m σ (fun K=>wpE W c m σ K X) k X:=h.run q
theorem t_orc (q:wpT W a m σ (fun K=>wpE W a m σ K X) (qOr W b m k X) X):wpT W (.or a b) m σ A k X:=q
theorem t_anc (q:wpT W a m σ (fun K=>wpE W a m σ K X) (qAn W b m k X) X):wpT W (.and a b) m σ A k X:=q
theorem t_noc (q:wpT W a m σ (fun K=>wpE W a m σ K X) (qNo k) X):wpT W (.not a) m σ A k X:=q
theorem p_orF (q:wpT W b m σ (fun K=>wpE W b m σ K X) k X):qOr W b m k X false σ:=iF q
theorem p_orT (q:k true σ):qOr W b m k X true σ:=q
theorem p_anF (q:k false σ):qAn W b m k X false σ:=iF q
theorem p_anT (q:wpT W b m σ (fun K=>wpE W b m σ K X) k X):qAn W b m k X true σ:=iT q
theorem p_noF (q:k true σ):qNo k false σ:=q
theorem p_noT (q:k false σ):qNo k true σ:=q
theorem t_val (hw:wpT W c m σ (fun K=>wpE W c m σ K X) k X=wpE W c m σ (fun v σ=>l7 v σ fun b=>k b σ) X) (q:wpE W c m σ (fun v σ=>l7 v σ fun b=>k b σ) X):wpT W c m σ (fun K=>wpE W c m σ K X) k X:=hw▸q
end
theorem p_addL {r:Nat} {xs ys:List V} (hi:σ[p]? =some (.list xs)) (hj:σ[r]? =some (.list ys)) (hz:xs.length+ys.length≤lim) (q:Q (.obj σ.length) (σ++[.list (xs++ys)])):mQ .add (.obj p) (.obj r) σ Q:=.addL hi hj hz q
theorem ev_take {k:Nat} (ha:Ev m σ a (.tup vs)) (h:k < vs.length):Ev m σ (.slc a .nil (.cI k)) (.tup (vs.take k)):=⟨fun q=>ha.run (.to h q)⟩
theorem p_tb {k:Bool→Prop} {B:Bool} (q:k B):l7 (.bool B) σ k:=.bool q
theorem p_ix {i:Int} {Q:V→Prop} (h:nth vs i=some v) (q:Q v):wpIdx (.tup vs) (.int i) σ Q:=.tup h q
theorem p_ixo {i:Int} {Q:V→Prop} (hi:σ[p]? =some (.list vs)) (h:nth vs i=some v) (q:Q v):wpIdx (.obj p) (.int i) σ Q:=.obj hi h q
theorem p_at {n:At} {Q:V→Prop} (hi:σ[p]? =some ao) (h:attO n ao=some v) (q:Q v):wpAttr (.obj p) n σ Q:=by
 induction ao with
 | inst c kvs=>exact .mk hi h q
 | _=>cases h
theorem f_s {Q:aN→Prop} (q:wpF W l m σ Q X):wpF W (.cons .cS l) m σ Q X:=q
theorem f_e {Q:aN→Prop} (hw:wpF W (.cons a l) m σ Q X=wpE W a m σ (fun v σ=>intQ (fun i=>i.natAbs < 2 ^ 128∧wpF W l m σ Q X) v) X) (q:wpE W a m σ (fun v σ=>intQ (fun i=>i.natAbs < 2 ^ 128∧wpF W l m σ Q X) v) X):wpF W (.cons a l) m σ Q X:=hw▸q
theorem l_n {Q:List V→aN→Prop} (q:Q [] σ):wpL W .nil m σ Q X:=q
theorem dW {Q:List V→aN→Prop} (q:wpE W a m σ (fun v σ=>wpL W l m σ (fun vs σ=>Q (v::vs) σ) X) X):wpL W (.cons a l) m σ Q X:=q
theorem wh_t {b:M} {R:Lo→aN→Prop} {K:Fl→Lo→aN→Prop} {X:Ex→Lo→aN→Prop} (h:wpSs W b m σ (lpK R K) X):qWh W b m R K X true σ:=iT h
theorem wh_f {b r:M} {R:Lo→aN→Prop} {K:Fl→Lo→aN→Prop} {X:Ex→Lo→aN→Prop} (h:wpSs W r m σ K X):qWh W b m R (o8 W r K X) X false σ:=h
end
end
section
section
variable {α:Type} {l r:List α} {i j:Nat} {a b:α}
theorem aQ:(l++[a])[l.length]? =some a:=by rw [cG (bD _),gK];rfl
theorem bB:(l++a::r)[l.length]? =some a:=by rw [cG (bD _),gK];rfl
theorem dT:(l++a::r).set l.length b=l++b::r:=by rw [mJ _ _ (bD _),gK];rfl
theorem dN:(l++[a]).set l.length b=l++[b]:=dT
theorem cL (h:l[i]? =some a):(l++r)[i]? =some a:=by
 rw [bT (aX.mp h).1];exact h
theorem nU (h:l[i]? =some a):(l.set i b)[i]? =some b:=by
 rw [List.getElem?_set_self (aX.mp h).1]
theorem cT (h:l[j]? =some a) (hn:i≠j):(l.set i b)[j]? =some a:=by
 rw [List.getElem?_set_ne hn];exact h
theorem set_same (h:l[i]? =some a):l.set i a=l:=by
 apply List.ext_getElem?
 intro j
 by_cases q:i=j
 ·subst q;rw [nU h,h]
 ·rw [List.getElem?_set_ne q]
theorem bZ {l':List α} (h:l <+:l') (e:l[i]? =some a):l'[i]? =some a:=by
 obtain ⟨t,rfl⟩:=h;exact cL e
theorem aW (l r:List α):l <+:l++r:=⟨r,rfl⟩
theorem o9 {l':List α} (h:l <+:l') (hi:l.length≤i):l <+:l'.set i a:=by
 obtain ⟨t,rfl⟩:=h
 rw [mJ _ _ hi];exact ⟨_,rfl⟩
end
section
variable {W:Wp} {m:Lo} {σ:aN} {b r e it c elt:M} {K:Fl→Lo→aN→Prop} {X:Ex→Lo→aN→Prop} {is:List Nat} {one:Bool} {p tg:Nat} {α:Type} {f:α→V} {xs:List α}
theorem while_fuel {test:Lo→aN→(Bool→aN→Prop)→Prop} {body:Lo→aN→(Fl→Lo→aN→Prop)→Prop} {Q:Fl→Lo→aN→Prop} (I:Nat→Lo→aN→Prop)
  (step:∀(n:Nat) (R:Lo→aN→Prop),(∀k m σ,k < n→I k m σ→R m σ)→∀m σ,I n m σ→test m σ (ifQ (body m · (lpK R Q)) (Q .next m))):∀(F n:Nat) m σ,n < F→I n m σ→whileN test body Q F m σ:=by
 intro F
 induction F with
 | zero=>exact fun n m σ h=>absurd h (Nat.not_lt_zero n)
 | succ F ih=>exact fun n m σ hF h=>step n (whileN test body Q F) (fun k m σ hk hI=>ih k m σ (aJ hk (bE hF)) hI) m σ h
theorem sW (I:Nat→Lo→aN→Prop) (n:Nat) (h:I n m σ)
  (step:∀(n:Nat) (R:Lo→aN→Prop),(∀k m σ,k < n→I k m σ→R m σ)→∀m σ,I n m σ→wpT W c m σ (fun K=>wpE W c m σ K (exX X m)) (qWh W b m R (o8 W r K X) X) (exX X m)):wpSs W (.cons (.sW c b) r) m σ K X:=
 ⟨n+1,while_fuel I step (n+1) n m σ (jX n) h⟩
theorem bd {v:V} {m':Lo} (hb:bindT m is one v=some m') (h:wpSs W b m' σ K X):bodyF W b is one X v m σ K:=.mk m' hb h
theorem sF (hw:∀{A:(V→aN→Prop)→Prop} {B:V→aN→Prop} {C:Ex→aN→Prop},wpI W it m σ A B C=A B) (h:wpE W it m σ (qF W is one b r m K X) (exX X m)):wpSs W (.cons (.sF is one it b) r) m σ K X:=
 (show wpI W it m σ (fun K'=>wpE W it m σ K' (exX X m)) (qF W is one b r m K X) (exX X m) from hw.symm▸h)
theorem sFr (h:wpE W e m σ (qRg (qF W is one b r m K X)) (exX X m)):wpSs W (.cons (.sF is one (.blt .range (.cons e .nil)) b) r) m σ K X:=h
theorem drop_app {a b:List α} (e:a++b=xs):(xs.map f)[a.length]? =(b.map f)[0]? :=by
 rw [←e,bI,cG (by rw [aK];exact bD _),aK,gK]
theorem itN_0 {o:Option (List V)} {a:List α} {D:Prop} {S:V→Prop} (h:o=some (xs.map f)) (e:a++[]=xs) (d:D):ItN o a.length D S:=
 .mk _ h (fun _=>d) fun v q=>nomatch (drop_app (f:=f) e).symm.trans q
theorem itN_s {o:Option (List V)} {a b:List α} {x:α} {D:Prop} {S:V→Prop} (h:o=some (xs.map f)) (e:a++x::b=xs) (s:S (f x)):ItN o a.length D S:=
 .mk _ h (fun q=>nomatch (drop_app (f:=f) e).symm.trans q) fun v q=>Option.some.inj ((drop_app (f:=f) e).symm.trans q)▸s
theorem forN_ix {iv:V} {Q:Fl→Lo→aN→Prop} (I:List α→List α→Lo→aN→Prop) (has:∀a b m σ,I a b m σ→jD iv σ=some (xs.map f)) (done:∀m σ,I xs [] m σ→Q .next m σ)
  (step:∀a x c,a++x::c=xs→∀R:Lo→aN→Prop,(∀m σ,I (a++[x]) c m σ→R m σ)→∀m σ,I a (x::c) m σ→bodyF W b is one X (f x) m σ (lpK R Q)):∀c a,a++c=xs→∀m σ,I a c m σ→forN iv is one (fun m σ K=>wpSs W b m σ K X) Q (c.length+1) a.length m σ
 | [],a,e,m,σ,h=>itN_0 (has _ _ _ _ h) e (done m σ (by rw [bF] at e;exact e▸h))
 | x::c,a,e,m,σ,h=>itN_s (has _ _ _ _ h) e (step a x c e (forN iv is one (fun m σ K=>wpSs W b m σ K X) Q (c.length+1) (a.length+1)) (fun m σ h=>by
   have:=forN_ix I has done step c (a++[x]) (by rw [aE];exact e) m σ h
   rwa [aF] at this) m σ h)
theorem at_obj (h:σ[p]? =some (.list (xs.map f))):jD (.obj p) σ=some (xs.map f):=by
 show (match σ[p]? with
  | some (.list vs)=>some vs
  | _=>none)=_
 rw [h]
theorem pFo (I:List α→List α→Lo→aN→Prop) (h:I [] xs m σ) (has:∀a b m σ,I a b m σ→σ[p]? =some (.list (xs.map f))) (done:∀m σ,I xs [] m σ→wpSs W r m σ K X)
  (step:∀a x c,a++x::c=xs→∀R:Lo→aN→Prop,(∀m σ,I (a++[x]) c m σ→R m σ)→∀m σ,I a (x::c) m σ→bodyF W b is one X (f x) m σ (lpK R (o8 W r K X))):qF W is one b r m K X (.obj p) σ:=
 ⟨_,forN_ix I (fun a b m σ h=>at_obj (has a b m σ h)) done step xs [] rfl m σ h⟩
theorem pFt (I:List α→List α→Lo→aN→Prop) (h:I [] xs m σ) (done:∀m σ,I xs [] m σ→wpSs W r m σ K X)
  (step:∀a x c,a++x::c=xs→∀R:Lo→aN→Prop,(∀m σ,I (a++[x]) c m σ→R m σ)→∀m σ,I a (x::c) m σ→bodyF W b is one X (f x) m σ (lpK R (o8 W r K X))):qF W is one b r m K X (.tup (xs.map f)) σ:=
 ⟨_,forN_ix I (fun _ _ _ _ _=>rfl) done step xs [] rfl m σ h⟩
theorem pFb {xs:List Nat} (I:List Nat→List Nat→Lo→aN→Prop) (h:I [] xs m σ) (done:∀m σ,I xs [] m σ→wpSs W r m σ K X)
  (step:∀a x c,a++x::c=xs→∀R:Lo→aN→Prop,(∀m σ,I (a++[x]) c m σ→R m σ)→∀m σ,I a (x::c) m σ→bodyF W b is one X (.int x) m σ (lpK R (o8 W r K X))):qF W is one b r m K X (.bytes xs) σ:=
 ⟨_,forN_ix (f:=fun n:Nat=>V.int n) I (fun _ _ _ _ _=>rfl) done step xs [] rfl m σ h⟩
theorem range_at {n:Nat} {a c:List Nat} {x:Nat} (e:a++x::c=List.range n):x=a.length∧x < n:=by
 have h:(List.range n)[a.length]? =some x:=by rw [←e];exact bB
 obtain ⟨q,rfl⟩:=aX.mp h
 rw [eH] at q
 rw [lA]
 exact ⟨rfl,q⟩
theorem pRg {n:Nat} (hn:n≤lim) (I:Nat→Lo→aN→Prop) (h:I 0 m σ) (done:∀m σ,I n m σ→wpSs W r m σ K X)
  (step:∀j,j < n→∀R:Lo→aN→Prop,(∀m σ,I (j+1) m σ→R m σ)→∀m σ,I j m σ→bodyF W b is one X (.int j) m σ (lpK R (o8 W r K X))):qRg (qF W is one b r m K X) (.int n) σ:=
 ⟨⟨aV _,cC.mpr hn⟩,_,forN_ix (f:=fun i:Nat=>V.int i) (fun a _ m σ=>I a.length m σ) (fun _ _ _ _ _=>by show some ((List.range (n:Int).toNat).map _)=_;rw [dJ];rfl) (fun m σ h=>done m σ (by have h:I (List.range n).length m σ:=h;rwa [eH] at h))
  (fun a x c e R hR m σ h=>by
   obtain ⟨q,l⟩:=range_at e
   rw [q] at l ⊢
   exact step a.length l R (fun m σ h=>hR m σ (by rw [aF];exact h)) m σ h) (List.range n) [] rfl m σ h⟩
variable {Q:V→aN→Prop} {X:Ex→aN→Prop} {ifs:M} {caps:List Nat}
theorem eC (hw:∀{A:(V→aN→Prop)→Prop} {B:V→aN→Prop} {C:Ex→aN→Prop},wpI W it m σ A B C=A B) (h:wpE W it m σ (qC W elt tg ifs caps m Q) X):wpE W (.comp elt tg it ifs caps) m σ Q X:=
 (show wpI W it m σ (fun K'=>wpE W it m σ K' X) (qC W elt tg ifs caps m Q) X from hw.symm▸h)
theorem eCr (h:wpE W e m σ (qRg (qC W elt tg ifs caps m Q)) X):wpE W (.comp elt tg (.blt .range (.cons e .nil)) ifs caps) m σ Q X:=h
noncomputable abbrev bC (tg:Nat) (caps:List Nat) (m:Lo) (v:V) (m':Lo):Prop:=bindT (List.replicate (max tg 1) .none++caps.map (cD m)) (List.range (max tg 1)) (tg==0) v=some m'
theorem bdC {v:V} {m':Lo} {K:Option V→aN→Prop} (hb:bC tg caps m v m') (h:wpE W elt m' σ (sK K) noX):bodyC W elt tg .nil caps m v σ K:=.mk m' hb h
theorem bdCi {v:V} {m':Lo} {K:Option V→aN→Prop} (hb:bC tg caps m v m') (h:wpT W c m' σ (fun K=>wpE W c m' σ K noX) (ifQ (wpE W elt m' · (sK K) noX) (K .none)) noX):bodyC W elt tg (.cons c .nil) caps m v σ K:=.mk m' hb h
theorem compN_ix {iv:V} {Q:List V→aN→Prop} (I:List α→List α→List V→aN→Prop) (has:∀a b acc σ,I a b acc σ→jD iv σ=some (xs.map f)) (done:∀acc σ,I xs [] acc σ→Q acc σ)
  (step:∀a x b,a++x::b=xs→∀acc (R:List V→aN→Prop),(∀acc σ,I (a++[x]) b acc σ→R acc σ)→∀σ,I a (x::b) acc σ→bodyC W elt tg ifs caps m (f x) σ fun r σ=>R (adC acc r) σ):∀b a,a++b=xs→∀acc σ,I a b acc σ→compN iv (blkLo m tg caps) tg (fun m' σ K=>wpA W ifs m' σ (ifQ (wpE W elt m' · (sK K) noX) (K .none)) noX) Q (b.length+1) a.length acc σ
 | [],a,e,acc,σ,h=>itN_0 (has _ _ _ _ h) e (done acc σ (by rw [bF] at e;exact e▸h))
 | x::b,a,e,acc,σ,h=>itN_s (has _ _ _ _ h) e (step a x b e acc (compN iv (blkLo m tg caps) tg (fun m' σ K=>wpA W ifs m' σ (ifQ (wpE W elt m' · (sK K) noX) (K .none)) noX) Q (b.length+1) (a.length+1)) (fun acc σ h=>by
   have:=compN_ix I has done step b (a++[x]) (by rw [aE];exact e) acc σ h
   rwa [aF] at this) σ h)
theorem pCo (g:α→V) (J:List α→aN→Prop) (h:J [] σ) (has:∀a σ,J a σ→σ[p]? =some (.list (xs.map f))) (hz:xs.length≤lim) (done:∀σ,J xs σ→Q (.obj σ.length) (σ++[.list (xs.map g)]))
  (step:∀a x c,a++x::c=xs→∀R:V→aN→Prop,(∀σ,J (a++[x]) σ→R (g x) σ)→∀σ,J a σ→∃m',bC tg caps m (f x) m'∧wpE W elt m' σ R noX):qC W elt tg .nil caps m Q (.obj p) σ:=
 ⟨_,compN_ix (fun a _ acc σ=>acc=a.map g∧J a σ) (fun a _ _ σ h=>at_obj (has a σ h.2)) (fun acc σ h=>by rw [h.1];exact ⟨by rw [aK];exact hz,done σ h.2⟩)
  (fun a x c e acc R hR σ h=>by
   obtain ⟨m',hb,q⟩:=step a x c e (fun w σ=>R (acc++[w]) σ) (fun σ j=>hR _ _ ⟨by rw [h.1,bI];rfl,j⟩) σ h.2
   exact bdC hb q) xs [] rfl [] σ ⟨rfl,h⟩⟩
theorem pCt (g:α→V) (J:List α→aN→Prop) (h:J [] σ) (hz:xs.length≤lim) (done:∀σ,J xs σ→Q (.obj σ.length) (σ++[.list (xs.map g)]))
  (step:∀a x c,a++x::c=xs→∀R:V→aN→Prop,(∀σ,J (a++[x]) σ→R (g x) σ)→∀σ,J a σ→∃m',bC tg caps m (f x) m'∧wpE W elt m' σ R noX):qC W elt tg .nil caps m Q (.tup (xs.map f)) σ:=
 ⟨_,compN_ix (fun a _ acc σ=>acc=a.map g∧J a σ) (fun _ _ _ _ _=>rfl) (fun acc σ h=>by rw [h.1];exact ⟨by rw [aK];exact hz,done σ h.2⟩)
  (fun a x c e acc R hR σ h=>by
   obtain ⟨m',hb,q⟩:=step a x c e (fun w σ=>R (acc++[w]) σ) (fun σ j=>hR _ _ ⟨by rw [h.1,bI];rfl,j⟩) σ h.2
   exact bdC hb q) xs [] rfl [] σ ⟨rfl,h⟩⟩
theorem pCoG (I:List α→List α→List V→aN→Prop) (h:I [] xs [] σ) (has:∀a b acc σ,I a b acc σ→σ[p]? =some (.list (xs.map f))) (done:∀acc σ,I xs [] acc σ→finC Q acc σ)
  (step:∀a x c,a++x::c=xs→∀acc (R:V→aN→Prop),(∀w σ,I (a++[x]) c (acc++[w]) σ→R w σ)→∀σ,I a (x::c) acc σ→∃m',bC tg caps m (f x) m'∧wpE W elt m' σ R noX):qC W elt tg .nil caps m Q (.obj p) σ:=
 ⟨_,compN_ix I (fun a b acc σ h=>at_obj (has a b acc σ h)) done (fun a x c e acc R hR σ h=>by
   obtain ⟨m',hb,q⟩:=step a x c e acc (fun w σ=>R (acc++[w]) σ) (fun w σ j=>hR _ _ j) σ h
   exact bdC hb q) xs [] rfl [] σ h⟩
theorem pCrG {n:Nat} (hn:n≤lim) (I:Nat→List V→aN→Prop) (h:I 0 [] σ) (done:∀acc σ,I n acc σ→finC Q acc σ)
  (step:∀j,j < n→∀acc (R:List V→aN→Prop),(∀acc σ,I (j+1) acc σ→R acc σ)→∀σ,I j acc σ→bodyC W elt tg ifs caps m (.int j) σ fun r σ=>R (adC acc r) σ):qRg (qC W elt tg ifs caps m Q) (.int n) σ:=
 ⟨⟨aV _,cC.mpr hn⟩,_,compN_ix (f:=fun i:Nat=>V.int i) (fun a _ acc σ=>I a.length acc σ) (fun _ _ _ _ _=>by show some ((List.range (n:Int).toNat).map _)=_;rw [dJ];rfl) (fun acc σ h=>done acc σ (by have h:I (List.range n).length acc σ:=h;rwa [eH] at h))
  (fun a x c e acc R hR σ h=>by
   obtain ⟨q,l⟩:=range_at e
   rw [q] at l ⊢
   exact step a.length l acc R (fun acc σ h=>hR acc σ (by rw [aF];exact h)) σ h) (List.range n) [] rfl [] σ h⟩
theorem pCr {n:Nat} (hn:n≤lim) (g:Nat→V) (J:Nat→aN→Prop) (h:J 0 σ) (done:∀σ,J n σ→Q (.obj σ.length) (σ++[.list ((List.range n).map g)]))
  (step:∀j,j < n→∀R:V→aN→Prop,(∀σ,J (j+1) σ→R (g j) σ)→∀σ,J j σ→∃m',bC tg caps m (.int j) m'∧wpE W elt m' σ R noX):qRg (qC W elt tg .nil caps m Q) (.int n) σ:=
 pCrG hn (fun j acc σ=>acc=(List.range j).map g∧J j σ) ⟨rfl,h⟩ (fun acc σ h=>by rw [h.1];exact ⟨by rw [aK,eH];exact hn,done σ h.2⟩)
  (fun j hj acc R hR σ h=>by
   obtain ⟨m',hb,q⟩:=step j hj (fun w σ=>R (acc++[w]) σ) (fun σ k=>hR _ _ ⟨by rw [h.1,List.range_succ,bI];rfl,k⟩) σ h.2
   exact bdC hb q)
end
theorem ne_t {i j:Int} (h:¬i=j):(!decide (i=j))=true:=by rw [decide_eq_false h];rfl
theorem ne_f {i j:Int} (h:i=j):(!decide (i=j))=false:=by rw [decide_eq_true h];rfl
end
section
theorem LE {a b:Nat} (h:Nat.ble a b=true):a≤b:=bG h
theorem jK {a b:Nat} (h:a≤b) (q:Nat.ble b 1048576=true):a≤lim:=aA h (bG q)
noncomputable def grp:Nat→Nat→List Nat
 | 0,n=>[n]
 | f+1,n=>if n < 128 then [n] else (n % 128+128)::grp f (n / 128)
noncomputable def groups (n:Nat):List Nat:=grp n n
theorem grp_ge {f n:Nat} (h:¬n < 128):grp (f+1) n=(n % 128+128)::grp f (n / 128):=if_neg h
theorem grp_lt {f n:Nat} (h:n < 128):grp f n=[n]:=by
 induction f with
 | zero=>rfl
 | succ f=>exact if_pos h
theorem grp_eq:∀{f g n:Nat},n≤f→n≤g→grp f n=grp g n
 | 0,g,n,h,_=>by rw [Nat.le_zero.mp h];exact (grp_lt (by decide)).symm
 | f,0,n,_,h=>by rw [Nat.le_zero.mp h];exact grp_lt (by decide)
 | f+1,g+1,n,h,k=>by
  by_cases q:n < 128
  ·rw [grp_lt q,grp_lt q]
  ·have z:n / 128 < n:=Nat.div_lt_self (aJ (by decide) (bU q)) (by decide)
   rw [grp_ge q,grp_ge q,grp_eq (bE (aJ z h)) (bE (aJ z k))]
theorem gD {n:Nat} (h:n < 128):groups n=[n]:=grp_lt h
theorem jS {n:Nat} (h:¬n < 128):groups n=(n % 128+128)::groups (n / 128):=by
 have z:n / 128 < n:=Nat.div_lt_self (aJ (by decide) (bU h)) (by decide)
 unfold groups
 rw [grp_eq (bD n) (eJ n),grp_ge h,grp_eq (b6 z) (bD _)]
theorem groups_len:∀(b n:Nat),n < 128 ^ (b+1)→(groups n).length≤b+1
 | 0,n,h=>by rw [gD h];exact bD _
 | b+1,n,h=>by
  by_cases q:n < 128
  ·rw [gD q];exact bX (cV _)
  ·rw [jS q]
   exact bX (groups_len b (n / 128) (jN (eX _ _▸h)))
theorem gT (n:Nat):groups n≠[]:=by
 by_cases q:n < 128
 ·rw [gD q];exact fun h=>nomatch h
 ·rw [jS q];exact fun h=>nomatch h
theorem oP {n:Nat} (h:n≤18446744073709551615):(groups n).length≤10:=groups_len 9 n (aS h (by decide))
theorem and127 (n:Nat):n &&& 127=n % 128:=nC n 7
theorem or128 (n:Nat):n % 128 ||| 128=n % 128+128:=by
 have:=o5 (i:=7) (fX n (by decide)) 1
 rw [Nat.or_comm,←this,eY]
theorem lt128 {n:Nat} (h:¬n < 128):n / 128 < n:=Nat.div_lt_self (aJ (by decide) (bU h)) (by decide)
section
variable {d:Nat} {σ:aN} {Q:V→aN→Prop} {X:Ex→aN→Prop}
theorem byte_of {n:Nat} (h:n < 256):∀k∈[(n:Int)],0≤k∧k < 256:=fun k hk=>by
 cases bJ.mp hk;exact ⟨aV _,bH.mpr h⟩
theorem p_by1 {σ:aN} {p n:Nat} (hi:σ[p]? =some (.list [.int n])) (h:n < 256) (q:Q (.bytes [n]) σ):qB .bytes Q (.obj p) σ:=p_bys (ns:=[(n:Int)]) hi (byte_of h) q
theorem c_put_small {b:M} {n:Nat} (h0:n < 128) (h:∀τ,Q (.bytes (groups n)) (σ++τ)):wpSs (wpCall d) (.cons (.sIf (.and (.cmp .ge (.loc 0) (.cI 0)) (.cmp .lt (.loc 0) (.cI 128))) (.cons (.sR (.blt .bytes (.cons (.lst (.cons (.loc 0) .nil)) .nil))) .nil) .nil) b) [some (.int n)] σ (mV Q) (exK X):=by
 have h1:(n:Int) < 128:=bH.mpr h0
 refine mU (i8 (dH (aB rfl) aH (iN (decide_eq_true (aV _)))) (dH (aB rfl) aH (d0 (decide_eq_true h1)))) (sR (fH (eA (aD (aB rfl) aG) rfl ?_)))
 refine p_by1 aQ (dD h0 (by decide)) ?_
 have:=h [.list [.int n]]
 rwa [gD h0] at this
theorem c_write_groups {n most:Nat} (hm:n≤most) (hz:n≤18446744073709551615) (h:∀τ,Q (.bytes (groups n)) (σ++τ)):wpCall (d+1) .write_groups [.int n,.int most] σ Q X:=by
 refine ent [some (.int n),some (.int most),none] rfl rfl ?_
 have h2:¬most < n:=bK.mpr hm
 refine iV (t_or (dH (aB rfl) aH (d0 (decide_eq_false nneg))) (dH (aB rfl) (aB rfl) (eS (decide_eq_false (nlt h2))))) (sA (e_ba ?_))
 refine sW (I:=fun k m σ'=>∃acc,m=[some (.int k),some (.int most),some (.obj σ.length)]∧σ'=σ++[.barr acc]∧acc++groups k=groups n) n ⟨[],rfl,rfl,rfl⟩ fun k R hR m σ' hI=>?_
 obtain ⟨acc,rfl,rfl,hg⟩:=hI
 have hl:acc.length < lim:=by
  have e:=congrArg List.length hg
  rw [aF] at e
  have:=oP hz
  exact aS (aA (aU _ _) (aA (cP e) this)) (by decide)
 by_cases hn:k < 128
 ·have h3:¬128≤k:=Nat.not_le.mpr hn
  have h4:k < 256:=dD hn (by decide)
  refine nI.run (b:=false) (dH (aB rfl) aH (iN (decide_eq_false (nle h3)))) (wh_f ?_)
  refine sE (e_bapp (aB rfl) aQ (aB rfl) hl h4 dN (sR (Ev.run (ev_bb (aB rfl) aQ) ?_)))
  rw [gD hn] at hg
  rw [hg]
  exact h _
 ·have h3:128≤k:=bU hn
  refine nI.run (b:=true) (dH (aB rfl) aH (iN (decide_eq_true (cC.mpr h3)))) (wh_t ?_)
  refine sE (e_bapp (k:=k % 128+128) (aB rfl) aQ ((b8 (b8 (aB rfl) aH b_and) aH b_or).cast ?_) hl (Nat.add_lt_add_right (fX k (by decide)) 128) dN ?_)
  ·show V.int ((k &&& 127 ||| 128:Nat):Int)=_
   rw [and127,or128]
  refine sG rfl aH b_shr (s0 (hR (k / 128) _ _ (lt128 hn) ⟨_,rfl,rfl,?_⟩))
  rw [aE,←hg,jS hn];rfl
theorem c_put_varint {n:Nat} (hz:n≤18446744073709551615) (h:∀τ,Q (.bytes (groups n)) (σ++τ)):wpCall (d+2) .put_varint [.int n] σ Q X:=by
 refine ent [some (.int n)] rfl rfl ?_
 by_cases hn:n < 128
 ·exact c_put_small hn h
 ·refine iV (i8 (dH (aB rfl) aH (iN (decide_eq_true (aV _)))) (dH (aB rfl) aH (d0 (decide_eq_false (nlt hn))))) (sR (aP (aD (aB rfl) (aD (iX rfl) aG)) ?_))
  exact c_write_groups (most:=18446744073709551615) hz hz h
theorem c_put_varint32 {n:Nat} (hz:n≤4294967295) (h:∀τ,Q (.bytes (groups n)) (σ++τ)):wpCall (d+2) .put_varint32 [.int n] σ Q X:=by
 refine ent [some (.int n)] rfl rfl ?_
 by_cases hn:n < 128
 ·exact c_put_small hn h
 ·refine iV (i8 (dH (aB rfl) aH (iN (decide_eq_true (aV _)))) (dH (aB rfl) aH (d0 (decide_eq_false (nlt hn))))) (sR (aP (aD (aB rfl) (aD (iX rfl) aG)) ?_))
  exact c_write_groups (most:=4294967295) hz (aA hz (by decide)) h
end
end
section
noncomputable def eU {α:Type} (p:Except Ex α) (A:α→Prop) (B:Ex→Prop):Prop:=match p with
 | .ok a=>A a
 | .error x=>B x
noncomputable def bnd {α β:Type}:Except Ex α→(α→Except Ex β)→Except Ex β
 | .ok a,f=>f a
 | .error x,_=>.error x
section
variable {α β:Type} {p q:Except Ex α} {f:α→Except Ex β} {A:α→Prop} {C:β→Prop} {B:Ex→Prop} {a:α} {x:Ex} {c:Prop} [Decidable c]
theorem eU.er (h:eU (bnd p f) C B) (e:p=.error x):B x:=by subst e;exact h
theorem eU.k (h:eU (bnd p f) C B) (e:p=.ok a):eU (f a) C B:=by subst e;exact h
theorem eU.t (h:eU (if c then p else q) A B) (hc:c):eU p A B:=by rwa [if_pos hc] at h
theorem eU.e (h:eU (if c then p else q) A B) (hc:¬c):eU q A B:=by rwa [if_neg hc] at h
theorem eU.of (he:∀x,p=.error x→B x) (h:∀a,p=.ok a→A a):eU p A B:=by
 induction p with
 | ok a=>exact h a rfl
 | error x=>exact he x rfl
theorem eU.bnd {D:Ex→Prop} (h:eU (bnd p f) C B) (he:∀x,p=.error x→B x→D x) (hk:∀a,p=.ok a→eU (f a) C B→A a):eU p A D:=by
 induction p with
 | ok a=>exact hk a rfl h
 | error x=>exact he x rfl h
end
noncomputable def vdec (most:Nat):Nat→List Nat→Nat→Nat→Except Ex (Nat×List Nat)
 | 0,_,_,_=>.error .Corrupt
 | k+1,r,sh,n=>match r with
  | []=>.error .ShortOctets
  | o::r=>if o < 128 then (if most < n+o % 128*2 ^ sh then .error .Corrupt else .ok (n+o % 128*2 ^ sh,r)) else vdec most k r (sh+7) (n+o % 128*2 ^ sh)
noncomputable def pv (r:List Nat):Except Ex (Nat×List Nat):=vdec 18446744073709551615 10 r 0 0
noncomputable def pv32 (r:List Nat):Except Ex (Nat×List Nat):=vdec 4294967295 5 r 0 0
theorem or_shl {n o sh:Nat} (h:n < 2 ^ sh):n ||| o*2 ^ sh=n+o*2 ^ sh:=by
 have:=o5 h o
 rw [Nat.or_comm,eX,←this,eY]
theorem eok {α:Type} {x:Ex} {a:α} {P:Prop} (h:(Except.error x:Except Ex α)=.ok a):P:=nomatch h
theorem mE {most:Nat}:∀{k:Nat} {r:List Nat} {sh n:Nat} {p:Nat×List Nat},vdec most k r sh n=.ok p→p.1≤most∧∃u,r=u++p.2∧u≠[]
 | 0,_,_,_,_,h=>eok h
 | _+1,[],_,_,_,h=>eok h
 | k+1,o::r,sh,n,p,h=>by
  have h:(if o < 128 then (if most < n+o % 128*2 ^ sh then .error .Corrupt else .ok (n+o % 128*2 ^ sh,r)) else vdec most k r (sh+7) (n+o % 128*2 ^ sh))=.ok p:=h
  by_cases q:o < 128
  ·rw [if_pos q] at h
   by_cases w:most < n+o % 128*2 ^ sh
   ·rw [if_pos w] at h;exact eok h
   ·rw [if_neg w] at h
    obtain rfl:=Except.ok.inj h
    exact ⟨bU w,[o],rfl,fun z=>nomatch z⟩
  ·rw [if_neg q] at h
   obtain ⟨l,u,e,_⟩:=mE h
   exact ⟨l,o::u,congrArg (o::·) e,fun z=>nomatch z⟩
section
variable {d:Nat} {σ:aN} {Q:V→aN→Prop} {X:Ex→aN→Prop}
noncomputable abbrev mW (data r:List Nat):V:=.int ((data.length - r.length:Nat):Int)
theorem at_len {pre data r:List Nat} (hd:pre++r=data):data.length - r.length=pre.length:=by rw [←hd,aF,pI]
theorem get_pre {α:Type} {pre data r:List α} {o:α} (hd:pre++o::r=data):data[pre.length]? =some o:=by rw [←hd];exact bB
theorem len_lt {α:Type} {pre data r:List α} {o:α} (hd:pre++o::r=data):pre.length < data.length:=by
 rw [←hd,aF];exact Nat.lt_add_of_pos_right (fM _)
theorem nthN {α:Type} {l:List α} {k:Nat} {a:α} (h:l[k]? =some a):nth l (k:Int)=some a:=by
 unfold nth;rw [if_pos (aV _),dJ];exact h
theorem oE {n m:Nat} (h:n≤m) (q:Nat.ble m 18446744073709551615=true):n < 2 ^ 128:=aS (aA h (LE q)) (by decide)
theorem c_read_groups {data pre r:List Nat} {k most:Nat} (hd:pre++r=data) (hk:k≤10) (h:eU (vdec most k r 0 0) (fun p=>Q (.tup [.int p.1,mW data p.2]) σ) (fun x=>X x σ)):wpCall (d+1) .read_groups [.bytes data,.int (pre.length:Nat),.int k,.int most] σ Q X:=by
 refine ent [some (.bytes data),some (.int (pre.length:Nat)),some (.int k),some (.int most),none,none,none,none] rfl rfl ?_
 have kb:=oE hk rfl
 refine iV (dH (aB rfl) aH (d0 (decide_eq_false nneg))) (sA (Ev.run aH (sA (Ev.run aH (sFr (Ev.run (aB rfl) ?_))))))
 refine pRg (jK hk rfl) (fun j m σ'=>∃pre' r' sh n t o,σ'=σ∧m=[some (.bytes data),some (.int (pre'.length:Nat)),some (.int k),some (.int most),some (.int (n:Nat)),some (.int (sh:Nat)),t,o]∧pre'++r'=data∧n < 2 ^ sh∧sh=7*j∧
  vdec most (k - j) r' sh n=vdec most k r 0 0) ⟨pre,r,0,0,none,none,rfl,rfl,hd,by decide,rfl,rfl⟩ (fun m σ' hI=>?_) fun j hj R hR m σ' hI=>?_
 ·refine hide fun Gx hGx=>?_
  obtain ⟨pre',r',sh,n,t,o,rfl,rfl,hd',hn,hs,hv⟩:=hI
  refine hGx ?_
  rw [←hv,gK] at h
  refine sX1 (ev_f (ef_s (lX rfl (aB rfl) kb (ef_s ef_n)))) ?_
  exact h
 ·refine hide fun Gx hGx=>?_
  obtain ⟨pre',r',sh,n,t,o,rfl,rfl,hd',hn,hs,hv⟩:=hI
  refine hGx ?_
  have ek:k - j=(k - (j+1))+1:=by rw [Nat.sub_add_eq,Nat.sub_add_cancel (Nat.sub_pos_of_lt ‹_›)]
  have sb:sh≤63:=by rw [‹sh=_›];exact gU 7 (bE (aJ ‹j < k› ‹k≤10›))
  rw [←hv,ek] at h
  rw [ek] at hv
  refine bd rfl ?_
  induction r' with
  | nil=>
   have h2:data.length≤pre'.length:=by rw [←hd',bF];exact bD _
   refine mU (dH (aB rfl) (gM (aB rfl)) (iN (decide_eq_true (cC.mpr h2)))) (sX1 ev_s ?_)
   exact h
  | cons o' r'=>
   have h2:¬data.length≤pre'.length:=Nat.not_le.mpr (len_lt hd')
   have h3:=nthN (get_pre hd')
   have e2:=or_shl (o:=o' % 128) hn
   have e3:gF .bor (.int n) (.int ((o' % 128*2 ^ sh:Nat):Int)) (.int ((n+o' % 128*2 ^ sh:Nat):Int)):=by rw [←e2];exact b_or
   have e4:gF .band (.int o') (.int 127) (.int ((o' % 128:Nat):Int)):=by rw [←and127];exact b_and
   have e5:o' % 128 < 2 ^ 64:=dD (fX _ (by decide)) (by decide)
   have e8:sh≤1000:=aA sb (by decide)
   have e6:n+o' % 128*2 ^ sh < 2 ^ (sh+7):=by
    have:o' % 128*2 ^ sh≤127*2 ^ sh:=bA _ (bE (fX _ (by decide)))
    rw [Nat.pow_add];exact aJ (Nat.add_lt_add_of_lt_of_le ‹_› ‹_›) (cP ((eY _ _).trans ((jW 127 _).symm.trans (eX _ _))))
   refine iV (dH (aB rfl) (gM (aB rfl)) (iN (decide_eq_false (nle h2)))) (sA ((kJ (aB rfl) (aB rfl) h3).run ?_))
   refine sG rfl aH cE (sG rfl (b8 (b8 (aB rfl) aH e4) (aB rfl) (b_shl e8 e5)) e3 ?_)
   by_cases ho:o' < 128
   ·have h:eU (if o' < 128 then (if most < n+o' % 128*2 ^ sh then .error .Corrupt else .ok (n+o' % 128*2 ^ sh,r')) else _) _ _:=h
    have h:=h.t ho
    refine mU (dH (aB rfl) aH (d0 (decide_eq_true (bH.mpr ho)))) ?_
    by_cases hm:most < n+o' % 128*2 ^ sh
    ·have e7:n+o' % 128*2 ^ sh < 2 ^ 128:=aJ e6 (nM (by decide) (aA (d9 sb 7) (by decide)))
     have e8:most < 2 ^ 128:=dD hm e7
     refine mU (dH (aB rfl) (aB rfl) (eS (decide_eq_true (bH.mpr hm)))) ?_
     refine sX1 (ev_f (ef_s (lX rfl (aB rfl) e7 (ef_s (lX rfl (aB rfl) e8 ef_n))))) ?_
     exact h.t hm
    ·refine iV (dH (aB rfl) (aB rfl) (eS (decide_eq_false (nlt hm)))) ?_
     refine sR (Ev.run (fJ (aD (aB rfl) (aD (aB rfl) aG)) rfl) ?_)
     have h:Q (.tup [_,mW data r']) _:=h.e hm
     have e7:data.length - r'.length=pre'.length+1:=by rw [←hd',aF,cK,←c4,cZ,pI]
     unfold mW at h
     rw [e7] at h
     exact h
   ·refine iV (dH (aB rfl) aH (d0 (decide_eq_false (nlt ho)))) (sG rfl aH cE (s0 (hR _ _ ⟨pre'++[o'],r',sh+7,n+o' % 128*2 ^ sh,some (.int j),some (.int o'),rfl,?_,by rw [aE];exact hd',e6,by rw [hs];rfl,?_⟩)))
    ·rw [aF];rfl
    ·exact (show vdec most (k - (j+1)+1) (o'::r') sh n=vdec most (k - (j+1)) r' (sh+7) (n+o' % 128*2 ^ sh) from if_neg ho).symm.trans hv
theorem vdec_small {most k o:Nat} {r:List Nat} (h:o < 128) (q:o≤most):vdec most (k+1) (o::r) 0 0=.ok (o,r):=by
 have e:0+o % 128*2 ^ 0=o:=by rw [hK h,fL,Nat.pow_zero,Nat.mul_one]
 show (if o < 128 then (if most < 0+o % 128*2 ^ 0 then _ else Except.ok (0+o % 128*2 ^ 0,r)) else _)=_
 rw [if_pos h,e,if_neg (bK.mpr q)]
theorem pv_small {r:List Nat} {o:Nat} (h:o < 128):pv (o::r)=.ok (o,r):=vdec_small h (aA (b6 h) (by decide))
theorem pv32_small {r:List Nat} {o:Nat} (h:o < 128):pv32 (o::r)=.ok (o,r):=vdec_small h (aA (b6 h) (by decide))
theorem c_read_vx {data pre r:List Nat} {k most:Nat} {g:M} (hg:Ev [some (.bytes data),some (.int (pre.length:Nat))] σ g (.int most)) (hk:k+1≤10) (hm:128≤most) (hd:pre++r=data) (h:eU (vdec most (k+1) r 0 0) (fun p=>Q (.tup [.int p.1,mW data p.2]) σ) (fun x=>X x σ)):
  wpSs (wpCall (d+1)) (.cons (.sIf (.and (.cmp .ge (.loc 1) (.cI 0)) (.and (.cmp .lt (.loc 1) (.blt .len (.cons (.loc 0) .nil))) (.cmp .lt (.idx (.loc 0) (.loc 1)) (.cI 128)))) (.cons (.sR (.tup (.cons (.idx (.loc 0) (.loc 1)) (.cons (.bin .add (.loc 1) (.cI 1)) .nil)))) .nil) .nil) (.cons (.sR (.call .read_groups (.cons (.loc 0) (.cons (.loc 1) (.cons (.cI (k+1:Nat)) (.cons g .nil)))))) .nil))
   [some (.bytes data),some (.int (pre.length:Nat))] σ (mV Q) (exK X):=by
 induction r with
 | nil=>
  have h2:¬pre.length < data.length:=by rw [←hd,bF];exact fQ _
  refine iV (i8 (dH (aB rfl) aH (iN (decide_eq_true (aV _)))) (t_anf (dH (aB rfl) (gM (aB rfl)) (d0 (decide_eq_false (nlt h2)))))) (sR (aP (aD (aB rfl) (aD (aB rfl) (aD aH (aD hg aG)))) ?_))
  exact c_read_groups (k:=k+1) hd hk h
 | cons o r=>
  have h2:=len_lt hd
  have h3:=nthN (get_pre hd)
  by_cases ho:o < 128
  ·rw [vdec_small ho (aA (b6 ho) hm)] at h
   have e:data.length - r.length=pre.length+1:=by rw [←hd,aF,cK,←c4,cZ,pI]
   refine mU (i8 (dH (aB rfl) aH (iN (decide_eq_true (aV _)))) (i8 (dH (aB rfl) (gM (aB rfl)) (d0 (decide_eq_true (bH.mpr h2)))) (dH (kJ (aB rfl) (aB rfl) h3) aH (d0 (decide_eq_true (bH.mpr ho)))))) (sR (Ev.run (fJ (aD (kJ (aB rfl) (aB rfl) h3) (aD (b8 (aB rfl) aH cE) aG)) rfl) ?_))
   have h:Q (.tup [.int o,mW data r]) σ:=h
   unfold mW at h
   rwa [e] at h
  ·refine iV (i8 (dH (aB rfl) aH (iN (decide_eq_true (aV _)))) (i8 (dH (aB rfl) (gM (aB rfl)) (d0 (decide_eq_true (bH.mpr h2)))) (dH (kJ (aB rfl) (aB rfl) h3) aH (d0 (decide_eq_false (nlt ho)))))) (sR (aP (aD (aB rfl) (aD (aB rfl) (aD aH (aD hg aG)))) ?_))
   exact c_read_groups (k:=k+1) hd hk h
theorem c_read_varint {data r:List Nat} (hs:r <:+data) (h:eU (pv r) (fun p=>Q (.tup [.int p.1,mW data p.2]) σ) (fun x=>X x σ)):wpCall (d+2) .read_varint [.bytes data,mW data r] σ Q X:=by
 obtain ⟨pre,hd⟩:=hs
 unfold mW
 rw [at_len hd]
 exact ent [some (.bytes data),some (.int (pre.length:Nat))] rfl rfl (c_read_vx (k:=9) (iX rfl) (by decide) (by decide) hd h)
theorem c_read_varint32 {data r:List Nat} (hs:r <:+data) (h:eU (pv32 r) (fun p=>Q (.tup [.int p.1,mW data p.2]) σ) (fun x=>X x σ)):wpCall (d+2) .read_varint32 [.bytes data,mW data r] σ Q X:=by
 obtain ⟨pre,hd⟩:=hs
 unfold mW
 rw [at_len hd]
 exact ent [some (.bytes data),some (.int (pre.length:Nat))] rfl rfl (c_read_vx (k:=4) (iX rfl) (by decide) (by decide) hd h)
end
end
section
noncomputable def pl (r:List Nat):Except Ex (List Nat×List Nat):=bnd (pv32 r) fun p=>if p.2.length < p.1 then .error .ShortOctets else .ok (p.2.take p.1,p.2.drop p.1)
noncomputable def pf:List Nat→Except Ex (Bool×List Nat)
 | []=>.error .ShortOctets
 | o::r=>if 1 < o then .error .Corrupt else .ok (o==1,r)
noncomputable def po:List Nat→Except Ex (Nat×List Nat)
 | []=>.error .ShortOctets
 | o::r=>.ok (o,r)
noncomputable def pd:List Nat→Except Ex Unit
 | []=>.ok ()
 | _=>.error .Corrupt
noncomputable def curP (data:List Nat) (n:Nat):AO:=.inst .Cursor [(.data,.bytes data),(.place,.int n)]
noncomputable def cur (data r:List Nat):AO:=curP data (data.length - r.length)
theorem cur_p {pre data r:List Nat} (hd:pre++r=data):cur data r=curP data pre.length:=congrArg (curP data) (at_len hd)
theorem cur_s {pre data r:List Nat} {o:Nat} (hd:pre++o::r=data):cur data r=curP data (pre.length+1):=by
 have:(pre++[o])++r=data:=by rw [aE];exact hd
 rw [cur_p this,aF];rfl
theorem jP {α:Type} {u r r' d:List α} (h:r=u++r') (s:r <:+d):r' <:+d:=by
 obtain ⟨p,rfl⟩:=s
 exact ⟨p++u,by rw [h,aE]⟩
theorem suffix_tl {α:Type} {a:α} {r d:List α} (s:a::r <:+d):r <:+d:=jP (u:=[a]) rfl s
theorem slice_suffix {α:Type} {pre r:List α} {n:Nat}:slice (pre++r) pre.length (pre.length+n)=r.take n:=by
 unfold slice
 rw [List.take_append,List.take_of_length_le (aU _ _),dO,List.drop_append,gK,List.drop_of_length_le (bD _)];rfl
section
variable {d:Nat} {σ τ:aN} {Q:V→aN→Prop} {X:Ex→aN→Prop} {data r:List Nat} {pre:List Nat} {W:Wp} {m:Lo} {a b c:M} {K:Fl→Lo→aN→Prop} {XX:Ex→Lo→aN→Prop}
theorem ev_sl {l h:Nat} {bs:List Nat} (ha:Ev m σ a (.bytes bs)) {i j k:Nat} (hi:cD m i=some (.int l)) (hj:cD m j=some (.int l)) (hk:cD m k=some (.int h)) (hl:l≤bs.length) (hh:l+h≤bs.length):Ev m σ (.slc a (.loc i) (.bin .add (.loc j) (.loc k))) (.bytes (slice bs l (l+h))):=
by
 refine ⟨fun {W Q X} q=>e_slc (ha.run ?_)⟩
 refine jB hi ?_
 refine jB hj ?_
 refine jB hk (.add (.bytes (l:=l) (h:=l+h) ?_ ?_ q))
 ·show some (lS bs.length l)=_;rw [oY,kK hl]
 ·show some (lS bs.length ((l+h:Nat):Int))=_;rw [oY,kK hh]
theorem c_read_lengthed (hz:data.length≤lim) (hs:r <:+data) (h:eU (pl r) (fun p=>Q (.tup [.bytes p.1,mW data p.2]) σ) (fun x=>X x σ)):wpCall (d+3) .read_lengthed [.bytes data,mW data r] σ Q X:=by
 refine ent [some (.bytes data),some (mW data r),none] rfl rfl ?_
 refine sT (aP (aD (aB rfl) (aD (aB rfl) aG)) ?_)
 refine c_read_varint32 hs (eU.bnd h (fun x _ b=>b) fun p e h=>?_)
 obtain ⟨n,r'⟩:=p
 obtain ⟨hn,u,hu,_⟩:=mE e
 obtain ⟨pre,hd⟩:=jP hu hs
 unfold mW
 rw [show ((n,r'):Nat×List Nat).2=r' from rfl,at_len hd]
 have hl:pre.length+r'.length=data.length:=by rw [←aF,hd]
 refine pT rfl ?_
 by_cases q:r'.length < n
 ·have h1:data.length < pre.length+n:=aS (cP hl.symm) (gV q _)
  have h2:=oE hn rfl
  have h3:gF .sub (.int data.length) (.int pre.length) (.int r'.length):=by
   have:(data.length:Int) - pre.length=r'.length:=by rw [←‹_=data.length›,Int.natCast_add,Int.add_comm];exact Int.add_sub_cancel _ _
   exact this▸b_sub
  have h4:r'.length < 2 ^ 128:=dD q h2
  refine mU (dH (b8 (aB rfl) (aB rfl) cE) (gM (aB rfl)) (eS (decide_eq_true (bH.mpr h1)))) (sX1 (ev_f (lX rfl (aB rfl) h2 (ef_s (lX rfl (b8 (gM (aB rfl)) (aB rfl) h3) h4 (ef_s ef_n))))) ?_)
  exact h.t q
 ·have h:Q (.tup [.bytes (r'.take n),mW data (r'.drop n)]) σ:=h.e q
  have h1:pre.length+n≤data.length:=hl▸aT (bU q) _
  have h2:¬data.length < pre.length+n:=bK.mpr h1
  refine iV (dH (b8 (aB rfl) (aB rfl) cE) (gM (aB rfl)) (eS (decide_eq_false (nlt h2)))) (sR ((fJ (aD (ev_by (ev_sl (aB rfl) rfl rfl rfl (aA (aU _ _) h1) h1)) (aD (b8 (aB rfl) (aB rfl) cE) aG)) rfl).run ?_))
  have e1:data.length - (r'.drop n).length=pre.length+n:=by rw [List.length_drop,←‹_=data.length›];exact Nat.sub_eq_of_eq_add (by rw [c4,Nat.add_sub_of_le (bU ‹_›)])
  unfold mW at h
  rw [e1,←slice_suffix (pre:=pre),hd] at h
  exact h
theorem k_init (h:Q .none (σ++[cur data data])):wpCall (d+1) .Cursor_init [.obj σ.length,.bytes data] (σ++[.inst .Cursor []]) Q X:=by
 refine ent [some (.obj σ.length),some (.bytes data),some (.int 0)] rfl rfl ?_
 have h1:¬(data.length:Int) < 0:=nneg
 have e:cur data data=curP data 0:=cur_p (pre:=[]) rfl
 rw [e] at h
 refine iV (t_or (dH (aB rfl) aH (d0 (decide_eq_false (by decide)))) (dH (aB rfl) (gM (aB rfl)) (eS (decide_eq_false h1)))) (sAt (Ev.run (aB rfl) (jR (aB rfl) aQ rfl dN (sAt (Ev.run (aB rfl) (jR (aB rfl) aQ rfl dN (s0 ?_)))))))
 exact h
theorem k_left (hs:r <:+data) (h:Q (.int (r.length:Nat)) (σ++cur data r::τ)):wpCall (d+1) .Cursor_left [.obj σ.length] (σ++cur data r::τ) Q X:=by
 refine ent [some (.obj σ.length)] rfl rfl ?_
 obtain ⟨pre,hd⟩:=hs
 have h3:gF .sub (.int data.length) (mW data r) (.int r.length):=by
  have:(data.length:Int) - ((data.length - r.length:Nat):Int)=r.length:=by rw [←hd,aF,pI,Int.natCast_add,Int.add_comm];exact Int.add_sub_cancel _ _
  exact this▸b_sub
 refine sR (Ev.run (b8 (gM (a9 (aB rfl) bB rfl)) (a9 (aB rfl) bB rfl) h3) ?_)
 exact h
theorem k_varint (hs:r <:+data) (h:eU (pv r) (fun p=>Q (.int p.1) (σ++cur data p.2::τ)) (fun x=>X x (σ++cur data r::τ))):wpCall (d+3) .Cursor_varint [.obj σ.length] (σ++cur data r::τ) Q X:=by
 refine ent [some (.obj σ.length),none,none] rfl rfl ?_
 have slow:wpSs (wpCall (d+2)) (.cons (.sT [2,1] (.call .read_varint (.cons (.attr (.loc 0) .data) (.cons (.loc 1) .nil)))) (.cons (.sAt (.loc 0) .place (.loc 1)) (.cons (.sR (.loc 2)) .nil)))
   [some (.obj σ.length),some (mW data r),none] (σ++cur data r::τ) (mV Q) (exK X):=by
  refine sT (aP (aD (a9 (aB rfl) bB rfl) (aD (aB rfl) aG)) ?_)
  refine c_read_varint hs (eU.of (fun x e=>by rw [e] at h;exact h) fun p e=>?_)
  rw [e] at h
  refine pT rfl ?_
  refine sAt (Ev.run (aB rfl) (jR (aB rfl) bB rfl dT (sR (Ev.run (aB rfl) ?_))))
  exact h
 obtain ⟨pre,hd⟩:=hs
 have ep:mW data r=.int (pre.length:Nat):=congrArg (fun n:Nat=>V.int n) (at_len hd)
 rw [cur_p hd] at slow ⊢
 rw [ep] at slow
 induction r with
 | nil=>
  have h2:¬pre.length < data.length:=by rw [←hd,bF];exact fQ _
  exact sA (Ev.run (a9 (aB rfl) bB rfl) (iV (t_anf (dH (aB rfl) (gM (a9 (aB rfl) bB rfl)) (d0 (decide_eq_false (nlt h2))))) slow))
 | cons o r=>
  have h2:=len_lt hd
  have h3:=nthN (get_pre hd)
  by_cases ho:o < 128
  ·rw [pv_small ho] at h
   have h:Q (.int o) (σ++cur data r::τ):=h
   rw [cur_s hd] at h
   refine sA (Ev.run (a9 (aB rfl) bB rfl) (mU (i8 (dH (aB rfl) (gM (a9 (aB rfl) bB rfl)) (d0 (decide_eq_true (bH.mpr h2)))) (dH (kJ (a9 (aB rfl) bB rfl) (aB rfl) h3) aH (d0 (decide_eq_true (bH.mpr ho))))) (sAt (Ev.run (b8 (aB rfl) aH cE) (jR (aB rfl) bB rfl dT (sR (Ev.run (kJ (a9 (aB rfl) bB rfl) (aB rfl) h3) ?_)))))))
   exact h
  ·exact sA (Ev.run (a9 (aB rfl) bB rfl) (iV (i8 (dH (aB rfl) (gM (a9 (aB rfl) bB rfl)) (d0 (decide_eq_true (bH.mpr h2)))) (dH (kJ (a9 (aB rfl) bB rfl) (aB rfl) h3) aH (d0 (decide_eq_false (nlt ho))))) slow))
theorem k_lengthed (hz:data.length≤lim) (hs:r <:+data) (h:eU (pl r) (fun p=>Q (.bytes p.1) (σ++cur data p.2::τ)) (fun x=>X x (σ++cur data r::τ))):wpCall (d+4) .Cursor_lengthed [.obj σ.length] (σ++cur data r::τ) Q X:=by
 refine ent [some (.obj σ.length),none,none] rfl rfl ?_
 refine sT (aP (aD (a9 (aB rfl) bB rfl) (aD (a9 (aB rfl) bB rfl) aG)) ?_)
 refine c_read_lengthed hz hs (eU.of (fun x e=>by rw [e] at h;exact h) fun p e=>?_)
 rw [e] at h
 refine pT rfl ?_
 refine sAt (Ev.run (aB rfl) (jR (aB rfl) bB rfl dT (sR (Ev.run (aB rfl) ?_))))
 exact h
theorem k_octet (hs:r <:+data) (h:eU (po r) (fun p=>Q (.int p.1) (σ++cur data p.2::τ)) (fun x=>X x (σ++cur data r::τ))):wpCall (d+1) .Cursor_octet [.obj σ.length] (σ++cur data r::τ) Q X:=by
 refine ent [some (.obj σ.length),none] rfl rfl ?_
 obtain ⟨pre,hd⟩:=hs
 induction r with
 | nil=>
  have h1:data.length≤pre.length:=by rw [←hd,bF];exact bD _
  rw [cur_p hd] at h ⊢
  refine mU (dH (a9 (aB rfl) bB rfl) (gM (a9 (aB rfl) bB rfl)) (iN (decide_eq_true (cC.mpr h1)))) (sX1 ev_s ?_)
  exact h
 | cons o r=>
  have h1:¬data.length≤pre.length:=Nat.not_le.mpr (len_lt hd)
  have h3:=nthN (get_pre hd)
  have h:Q (.int o) (σ++cur data r::τ):=h
  rw [cur_s hd] at h
  rw [cur_p hd]
  refine iV (dH (a9 (aB rfl) bB rfl) (gM (a9 (aB rfl) bB rfl)) (iN (decide_eq_false (nle h1)))) (sA (Ev.run (kJ (a9 (aB rfl) bB rfl) (a9 (aB rfl) bB rfl) h3) (sGA (aB rfl) bB rfl aH cE rfl dT (sR (Ev.run (aB rfl) ?_)))))
  exact h
theorem k_flag (hb:∀x∈data,x < 256) (hs:r <:+data) (h:eU (pf r) (fun p=>Q (.bool p.1) (σ++cur data p.2::τ)) (fun x=>∀c,X x (σ++c::τ))):wpCall (d+1) .Cursor_flag [.obj σ.length] (σ++cur data r::τ) Q X:=by
 refine ent [some (.obj σ.length),none] rfl rfl ?_
 obtain ⟨pre,hd⟩:=hs
 rw [cur_p hd]
 induction r with
 | nil=>
  have h1:data.length≤pre.length:=by rw [←hd,bF];exact bD _
  refine mU (dH (a9 (aB rfl) bB rfl) (gM (a9 (aB rfl) bB rfl)) (iN (decide_eq_true (cC.mpr h1)))) (sX1 ev_s ?_)
  exact h _
 | cons o r=>
  have h1:¬data.length≤pre.length:=Nat.not_le.mpr (len_lt hd)
  have h3:=nthN (get_pre hd)
  have h2:o < 2 ^ 128:=dD (hb o (by rw [←hd];exact a8 _ (.head _))) (by decide)
  by_cases q:1 < o
  ·refine iV (dH (a9 (aB rfl) bB rfl) (gM (a9 (aB rfl) bB rfl)) (iN (decide_eq_false (nle h1)))) (sA (Ev.run (kJ (a9 (aB rfl) bB rfl) (a9 (aB rfl) bB rfl) h3) (mU (dH (aB rfl) aH (eS (decide_eq_true (bH.mpr q)))) (sX1 (ev_f (ef_s (lX rfl (aB rfl) h2 ef_n))) ?_))))
   exact h.t q _
  ·have h:Q (.bool (o==1)) (σ++cur data r::τ):=h.e q
   rw [cur_s hd] at h
   have h4:∀s:aN,eI .eq (.int o) (.int 1) s (o==1):=fun s=>dR (by
    induction o with
    | zero=>rfl
    | succ n=>induction n with
     | zero=>rfl
     | succ n=>exact absurd (Nat.succ_lt_succ (fM n)) q)
   refine iV (dH (a9 (aB rfl) bB rfl) (gM (a9 (aB rfl) bB rfl)) (iN (decide_eq_false (nle h1)))) (sA (Ev.run (kJ (a9 (aB rfl) bB rfl) (a9 (aB rfl) bB rfl) h3) (iV (dH (aB rfl) aH (eS (decide_eq_false (nlt q)))) (sGA (aB rfl) bB rfl aH cE rfl dT (sR (Ev.run (ev_c (aB rfl) aH (h4 _)) ?_))))))
   exact h
theorem k_done (hz:data.length≤lim) (hs:r <:+data) (h:eU (pd r) (fun _=>Q .none (σ++cur data r::τ)) (fun x=>X x (σ++cur data r::τ))):wpCall (d+2) .Cursor_done [.obj σ.length] (σ++cur data r::τ) Q X:=by
 refine ent [some (.obj σ.length)] rfl rfl ?_
 have hs':=hs
 obtain ⟨pre,hd⟩:=hs
 have ep:=cur_p hd
 induction r with
 | nil=>
  have h1:¬pre.length < data.length:=by rw [←hd,bF];exact fQ _
  rw [ep] at h ⊢
  refine iV (dH (a9 (aB rfl) bB rfl) (gM (a9 (aB rfl) bB rfl)) (d0 (decide_eq_false (nlt h1)))) (s0 ?_)
  exact h
 | cons o r=>
  have h1:=len_lt hd
  have h2:(o::r).length < 2 ^ 128:=aS (aA hs'.length_le hz) (by decide)
  refine mU (show nI [some (.obj σ.length)] (σ++cur data (o::r)::τ) _ true from ?_) ?_
  ·rw [ep];exact (dH (a9 (aB rfl) bB rfl) (gM (a9 (aB rfl) bB rfl)) (d0 (decide_eq_true (bH.mpr h1))))
  exact sX (dW (e_fstr (aZ (aB rfl) bB rfl aG (k_left hs' ⟨h2,LE rfl,h⟩))))
end
end
section
noncomputable def sinkO (n:Nat):AO:=.inst .Sink [(.parts,.obj (n+1))]
structure Sk (σ0:aN) (b:List Nat) (N:Nat) (σ:aN):Prop where
 ext:∃τ,σ=σ0++sinkO σ0.length::.barr b::τ
 len:b.length≤N
section
variable {σ0 σ:aN} {b b':List Nat} {N N':Nat}
theorem jF {α:Type} {l r:List α} {a c:α}:(l++a::c::r)[l.length+1]? =some c:=by
 rw [cG (aU _ 1),dO];rfl
theorem nR {α:Type} {l r:List α} {a c e:α}:(l++a::c::r).set (l.length+1) e=l++a::e::r:=by
 rw [mJ _ _ (aU _ 1),dO];rfl
theorem Sk.sink (h:Sk σ0 b N σ):σ[σ0.length]? =some (sinkO σ0.length):=by
 obtain ⟨⟨τ,rfl⟩,_⟩:=h;exact bB
theorem Sk.barr (h:Sk σ0 b N σ):σ[σ0.length+1]? =some (.barr b):=by
 obtain ⟨⟨τ,rfl⟩,_⟩:=h;exact jF
theorem Sk.put (h:Sk σ0 b N σ) (l:b'.length≤N'):Sk σ0 b' N' (σ.set (σ0.length+1) (.barr b')):=by
 obtain ⟨⟨τ,rfl⟩,_⟩:=h
 exact ⟨⟨τ,nR⟩,l⟩
theorem Sk.app (h:Sk σ0 b N σ) (τ:aN):Sk σ0 b N (σ++τ):=by
 obtain ⟨⟨τ',rfl⟩,l⟩:=h;exact ⟨⟨τ'++τ,by rw [aE];rfl⟩,l⟩
theorem Sk.mono {σ':aN} (h:Sk σ0 b N σ) (p:σ <+:σ'):Sk σ0 b N σ':=by
 obtain ⟨t,rfl⟩:=p;exact h.app t
theorem Sk.pre (h:Sk σ0 b N σ):σ0 <+:σ:=by
 obtain ⟨⟨τ,rfl⟩,_⟩:=h;exact ⟨_,rfl⟩
theorem Sk.old (h:Sk σ0 b N σ) {i:Nat} {o:AO} (e:σ0[i]? =some o):σ[i]? =some o:=bZ h.pre e
theorem bY {α:Type} {a b:List α} {x y:Nat} (h:a.length≤x) (k:b.length≤y):(a++b).length≤x+y:=by
 rw [aF];exact fY h k
theorem lim_of {a b:Nat} (h:a≤b) (q:Nat.ble b 1048576=true):a≤lim:=aA h (LE q)
end
section
variable {d:Nat} {σ0 σ:aN} {Q:V→aN→Prop} {X:Ex→aN→Prop} {b:List Nat} {N:Nat}
theorem fE (q:∀σ,Sk σ0 [] 0 σ→Q .none σ):wpCall (d+1) .Sink_init [.obj σ0.length] (σ0++[.inst .Sink []]) Q X:=by
 refine ent [some (.obj σ0.length)] rfl rfl ?_
 have h:(σ0++[AO.inst .Sink []]++[AO.barr []]).set σ0.length (.inst .Sink [(.parts,.obj (σ0++[AO.inst .Sink []]).length)])=σ0++sinkO σ0.length::.barr []::[]:=by
  rw [aE,aF];exact dT
 refine sAt (e_ba (jR (aB rfl) (cL aQ) rfl h ?_))
 exact q _ ⟨⟨[],rfl⟩,bD _⟩
theorem c_put_varint_bad {n:Int} (hz:n < 0∨18446744073709551615 < n) (hb:n.natAbs < 2 ^ 128) (h:X .BadOption σ):wpCall (d+2) .put_varint [.int n] σ Q X:=by
 refine ent [some (.int n)] rfl rfl ?_
 have slow:wpCall (d+1) .write_groups [.int n,.int 18446744073709551615] σ (qR (mV Q) [some (.int n)]) X:=by
  refine ent [some (.int n),some (.int 18446744073709551615),none] rfl rfl ?_
  rcases hz with h0 | h0
  ·refine mU (t_ort (dH (aB rfl) aH (d0 (decide_eq_true h0)))) (sX1 (ev_f (ef_i rfl (aB rfl) hb (ef_s (lX rfl (aB rfl) (by decide) ef_n)))) ?_)
   exact h
  ·have h4:¬n < 0:=fun z=>absurd (Int.lt_trans z (by decide)) (gP.mpr (eZ h0))
   refine mU (t_or (dH (aB rfl) aH (d0 (decide_eq_false h4))) (dH (aB rfl) (aB rfl) (eS (decide_eq_true h0)))) ?_
   refine sX1 (ev_f (ef_i rfl (aB rfl) hb (ef_s (lX rfl (aB rfl) (by decide) ef_n)))) ?_
   exact h
 rcases hz with h0 | h0
 ·have h1:¬0≤n:=pK.mpr h0
  refine iV (t_anf (dH (aB rfl) aH (iN (decide_eq_false h1)))) (sR (aP (aD (aB rfl) (aD (iX rfl) aG)) ?_))
  exact slow
 ·have h1:0≤n:=cW (by decide) (eZ h0)
  have h2:¬n < 128:=gP.mpr (cW (by decide) (eZ h0))
  refine iV (i8 (dH (aB rfl) aH (iN (decide_eq_true h1))) (dH (aB rfl) aH (d0 (decide_eq_false h2)))) (sR (aP (aD (aB rfl) (aD (iX rfl) aG)) ?_))
  exact slow
theorem bP {n:Nat} (hS:Sk σ0 b N σ) (hn:n≤18446744073709551615) (hl:Nat.ble (N+10) 1048576=true) (q:∀σ',Sk σ0 (b++groups n) (N+10) σ'→Q .none σ'):wpCall (d+3) .Sink_varint [.obj σ0.length,.int n] σ Q X:=by
 refine ent [some (.obj σ0.length),some (.int n)] rfl rfl ?_
 have h2:=hS.barr
 have hg:=bY hS.len (oP hn)
 have hN:b.length < lim:=aJ (aS hS.len (Nat.lt_add_of_pos_right (by decide))) (LE hl)
 by_cases h:n < 128
 ·have h9:n < 256:=dD h (by decide)
  have q:=q _ (hS.put hg)
  rw [gD h] at q
  refine mU (i8 (dH (aB rfl) aH (iN (decide_eq_true (aV _)))) (dH (aB rfl) aH (d0 (decide_eq_true (bH.mpr h))))) (sE (e_bapp (a9 (aB rfl) (Sk.sink hS) rfl) h2 (aB rfl) hN h9 rfl (s0q (s0 ?_))))
  exact q
 ·refine sIf (i8 (dH (aB rfl) aH (iN (decide_eq_true (aV _)))) (dH (aB rfl) aH (d0 (decide_eq_false (nlt h))))) (sE (e_ext (a9 (aB rfl) (Sk.sink hS) rfl) h2 (aP (aD (aB rfl) aG) ?_)))
  refine c_put_varint hn fun τ=>?_
  exact p_ext (hS.app τ).barr (aA (cP aF.symm) (lim_of hg hl)) rfl (q _ ((hS.app τ).put hg))
theorem j5 {n:Int} (hS:Sk σ0 b N σ) (hz:n < 0∨18446744073709551615 < n) (hb:n.natAbs < 2 ^ 128) (h:X .BadOption σ):wpCall (d+3) .Sink_varint [.obj σ0.length,.int n] σ Q X:=by
 refine ent [some (.obj σ0.length),some (.int n)] rfl rfl ?_
 have h2:=hS.barr
 have c:=c_put_varint_bad (d:=d) (Q:=fun v σ=>qExt (σ0.length+1) (qE (wpCall (d+2)) .nil [some (.obj σ0.length),some (.int n)] (o8 (wpCall (d+2)) .nil (mV Q) (exK X)) (exK X)) v σ) (X:=X) (σ:=σ) hz hb h
 rcases hz with h0 | h0
 ·have h1:¬0≤n:=pK.mpr h0
  refine sIf (t_anf (dH (aB rfl) aH (iN (decide_eq_false h1)))) (sE (e_ext (a9 (aB rfl) (Sk.sink hS) rfl) h2 (aP (aD (aB rfl) aG) ?_)))
  exact c
 ·have h1:0≤n:=cW (by decide) (eZ h0)
  have h3:¬n < 128:=gP.mpr (cW (by decide) (eZ h0))
  refine sIf (i8 (dH (aB rfl) aH (iN (decide_eq_true h1))) (dH (aB rfl) aH (d0 (decide_eq_false h3)))) (sE (e_ext (a9 (aB rfl) (Sk.sink hS) rfl) h2 (aP (aD (aB rfl) aG) ?_)))
  exact c
noncomputable def lenB (x:List Nat):List Nat:=groups x.length++x
theorem cX {x:List Nat} {L:Nat} (hS:Sk σ0 b N σ) (hx:x.length≤L) (hl:Nat.ble (N+(10+L)) 1048576=true) (q:∀σ',Sk σ0 (b++lenB x) (N+(10+L)) σ'→Q .none σ'):wpCall (d+3) .Sink_lengthed [.obj σ0.length,.bytes x] σ Q X:=by
 refine ent [some (.obj σ0.length),some (.bytes x)] rfl rfl ?_
 have h2:=hS.barr
 have hL:x.length≤4294967295:=aA hx (aA (aA (eK _ _) (eK _ _)) (aA (LE hl) (by decide)))
 refine sE (e_ext (a9 (aB rfl) (Sk.sink hS) rfl) h2 (aP (aD (gM (aB rfl)) aG) ?_))
 refine c_put_varint32 hL fun τ=>?_
 have g:=bY hS.len (oP (aA hL (by decide)))
 have S':=(hS.app τ).put g
 have h3:=S'.barr
 have h4:=S'.sink
 have gx:=bY g hx
 refine p_ext (hS.app τ).barr (aA (cP aF.symm) (aA g (aA (aT (aU 10 L) N) (LE hl)))) rfl ?_
 refine sE (e_ext (a9 (aB rfl) h4 rfl) h3 ((aB rfl).run ?_))
 refine p_ext h3 (aA (cP aF.symm) (aA gx (c4 N 10 L▸LE hl))) rfl ?_
 refine q _ ?_
 unfold lenB
 rw [←aE,←c4]
 exact S'.put gx
theorem c_Sink_octet {n:Nat} (hS:Sk σ0 b N σ) (hn:n < 256) (hl:Nat.ble (N+1) 1048576=true) (q:∀σ',Sk σ0 (b++[n]) (N+1) σ'→Q .none σ'):wpCall (d+1) .Sink_octet [.obj σ0.length,.int n] σ Q X:=by
 refine ent [some (.obj σ0.length),some (.int n)] rfl rfl ?_
 have h2:=hS.barr
 have h4:¬255 < n:=bK.mpr (bE hn)
 have hN:b.length < lim:=aS hS.len (LE hl)
 refine iV (t_or (dH (aB rfl) aH (d0 (decide_eq_false nneg))) (dH (aB rfl) aH (eS (decide_eq_false (nlt h4))))) (sE (e_bapp (a9 (aB rfl) (Sk.sink hS) rfl) h2 (aB rfl) hN hn rfl (s0 ?_)))
 exact q _ (hS.put (bY hS.len (bD 1)))
theorem iO {f:Bool} (hS:Sk σ0 b N σ) (hl:Nat.ble (N+1) 1048576=true) (q:∀σ',Sk σ0 (b++[f.toNat]) (N+1) σ'→Q .none σ'):wpCall (d+1) .Sink_flag [.obj σ0.length,.bool f] σ Q X:=by
 refine ent [some (.obj σ0.length),some (.bool f)] rfl rfl ?_
 have h2:=hS.barr
 have hN:b.length < lim:=aS hS.len (LE hl)
 have q:=q _ (hS.put (bY hS.len (bD 1)))
 induction f with
 | true=>
  refine mU (t_lb rfl) (sE (e_bapp (k:=1) (a9 (aB rfl) (Sk.sink hS) rfl) h2 aH hN (by decide) rfl ?_))
  exact q
 | false=>
  refine sIf (t_lb rfl) (sE (e_bapp (k:=0) (a9 (aB rfl) (Sk.sink hS) rfl) h2 aH hN (by decide) rfl ?_))
  exact q
theorem fS (hS:Sk σ0 b N σ) (q:Q (.bytes b) σ):wpCall (d+1) .Sink_done [.obj σ0.length] σ Q X:=by
 refine ent [some (.obj σ0.length)] rfl rfl ?_
 have h2:=hS.barr
 refine sR (Ev.run (ev_bb (a9 (aB rfl) (Sk.sink hS) rfl) h2) ?_)
 exact q
end
end
section
structure eN where
 t:Nat
 i:Nat
 k:Nat
 d:List Nat
noncomputable def eN.o (e:eN):AO:=.inst .Entry [(.term,.int e.t),(.index,.int e.i),(.kind,.int e.k),(.data,.bytes e.d)]
noncomputable def eN.row (e:eN):V:=.tup [.int e.t,.int e.i,.int e.k,.bytes e.d]
noncomputable def eN.enc (e:eN):List Nat:=groups e.t++groups e.i++groups e.k++lenB e.d
structure eN.Ok (e:eN):Prop where
 t:e.t≤18446744073709551615
 i:e.i≤18446744073709551615
 k:e.k≤18446744073709551615
 d:e.d.length≤10000
noncomputable def pcount (r:List Nat):Except Ex (Nat×List Nat):=bnd (pv r) fun p=>if p.2.length < p.1 then .error .ShortOctets else .ok p
noncomputable def dEnt (data:List Nat):Except Ex eN:=bnd (pv data) fun a=>bnd (pv a.2) fun b=>bnd (pv b.2) fun c=>if c.1≠0∧c.1≠2 then .error .Corrupt else bnd (pl c.2) fun e=>bnd (pd e.2) fun _=>.ok ⟨a.1,b.1,c.1,e.1⟩
theorem gB {x:List Nat} {L:Nat} (h:x.length≤L) (q:Nat.ble L 4294967295=true):(lenB x).length≤10+L:=bY (oP (aA h (aA (LE q) (by decide)))) h
theorem eN.length (e:eN) (h:e.Ok):e.enc.length≤20000:=aA (bY (bY (bY (oP h.t) (oP h.i)) (oP h.k)) (gB h.d rfl)) (by decide)
section
variable {α β:Type} {r r' data:List Nat} {C:β→Prop} {B:Ex→Prop} {d:Nat} {σ τ:aN} {Q:V→aN→Prop} {X Y:Ex→aN→Prop}
theorem pv_spec {p:Nat×List Nat} (e:pv r=.ok p) (s:r <:+data):p.1≤18446744073709551615∧p.2 <:+data:=
 let ⟨l,_,u,_⟩:=mE e;⟨l,jP u s⟩
theorem pl_suf {p:List Nat×List Nat} (e:pl r=.ok p):∃u,r=u++(p.1++p.2)∧u≠[]:=by
 have z:eU (bnd (pv32 r) fun p=>if p.2.length < p.1 then .error .ShortOctets else .ok (p.2.take p.1,p.2.drop p.1)) (fun q=>q=p) (fun _=>False):=by
  have e':bnd (pv32 r) (fun p=>if p.2.length < p.1 then .error .ShortOctets else .ok (p.2.take p.1,p.2.drop p.1))=.ok p:=e
  rw [e'];rfl
 cases e2:pv32 r with
 | error x=>exact (z.er e2).elim
 | ok a=>
  have z:=z.k e2
  obtain ⟨_,u,hu,hn⟩:=mE e2
  by_cases q:a.2.length < a.1
  ·exact (z.t q).elim
  ·have h:(a.2.take a.1,a.2.drop a.1)=p:=z.e q
   subst h
   exact ⟨u,by rw [List.take_append_drop];exact hu,hn⟩
theorem pl_spec {p:List Nat×List Nat} (e:pl r=.ok p) (s:r <:+data):p.2 <:+data:=
 let ⟨u,h,_⟩:=pl_suf e;jP (u:=u++p.1) (by rw [aE];exact h) s
theorem pf_suf {p:Bool×List Nat} (e:pf r=.ok p):∃u,r=u++p.2∧u≠[]:=by
 cases r with
 | nil=>exact eok e
 | cons o r=>
  have h:eU (if 1 < o then .error .Corrupt else .ok (o==1,r)) (fun q=>q=p) (fun _=>False):=by
   have e:(if 1 < o then Except.error Ex.Corrupt else .ok (o==1,r))=.ok p:=e
   rw [e];rfl
  by_cases q:1 < o
  ·exact (h.t q).elim
  ·have h:(o==1,r)=p:=h.e q
   subst h;exact ⟨[o],rfl,fun z=>nomatch z⟩
theorem po_suf {p:Nat×List Nat} (e:po r=.ok p):∃u,r=u++p.2∧u≠[]:=by
 cases r with
 | nil=>exact eok e
 | cons o r=>
  obtain rfl:=Except.ok.inj e
  exact ⟨[o],rfl,fun z=>nomatch z⟩
theorem er0 {P:Ex→Prop} {t:aN}:∀x,P x→(∀σ',σ <+:σ'→Y x σ')→Y x (σ++t):=fun _ _ b=>b _ (aW _ _)
theorem dP {f:Nat×List Nat→Except Ex β} (hs:r <:+data) (h:eU (bnd (pv r) f) C B) (he:∀x,pv r=.error x→B x→X x (σ++cur data r::τ))
  (hk:∀v r',v≤18446744073709551615→eU (f (v,r')) C B→r' <:+data→pv r=.ok (v,r')→Q (.int v) (σ++cur data r'::τ)):wpCall (d+3) .Cursor_varint [.obj σ.length] (σ++cur data r::τ) Q X:=
 k_varint hs (h.bnd he fun p e q=>hk p.1 p.2 (pv_spec e hs).1 q (pv_spec e hs).2 e)
theorem fG {f:List Nat×List Nat→Except Ex β} (hz:data.length≤lim) (hs:r <:+data) (h:eU (bnd (pl r) f) C B) (he:∀x,pl r=.error x→B x→X x (σ++cur data r::τ))
  (hk:∀v r',eU (f (v,r')) C B→r' <:+data→pl r=.ok (v,r')→Q (.bytes v) (σ++cur data r'::τ)):wpCall (d+4) .Cursor_lengthed [.obj σ.length] (σ++cur data r::τ) Q X:=
 k_lengthed hz hs (h.bnd he fun p e q=>hk p.1 p.2 q (pl_spec e hs) e)
theorem r_flag {f:Bool×List Nat→Except Ex β} (hb:∀x∈data,x < 256) (hs:r <:+data) (h:eU (bnd (pf r) f) C B) (he:∀x,pf r=.error x→B x→∀c,X x (σ++c::τ))
  (hk:∀v r',eU (f (v,r')) C B→r' <:+data→pf r=.ok (v,r')→Q (.bool v) (σ++cur data r'::τ)):wpCall (d+1) .Cursor_flag [.obj σ.length] (σ++cur data r::τ) Q X:=
 k_flag hb hs (h.bnd he fun p e q=>hk p.1 p.2 q (let ⟨_,u,_⟩:=pf_suf e;jP u hs) e)
theorem r_octet {f:Nat×List Nat→Except Ex β} (hs:r <:+data) (h:eU (bnd (po r) f) C B) (he:∀x,po r=.error x→B x→X x (σ++cur data r::τ))
  (hk:∀v r',eU (f (v,r')) C B→r' <:+data→po r=.ok (v,r')→Q (.int v) (σ++cur data r'::τ)):wpCall (d+1) .Cursor_octet [.obj σ.length] (σ++cur data r::τ) Q X:=
 k_octet hs (h.bnd he fun p e q=>hk p.1 p.2 q (let ⟨_,u,_⟩:=po_suf e;jP u hs) e)
theorem r_done {f:Unit→Except Ex β} (hz:data.length≤lim) (hs:r <:+data) (h:eU (bnd (pd r) f) C B) (he:∀x,pd r=.error x→B x→X x (σ++cur data r::τ)) (hk:eU (f ()) C B→Q .none (σ++cur data r::τ)):wpCall (d+2) .Cursor_done [.obj σ.length] (σ++cur data r::τ) Q X:=
 k_done hz hs (h.bnd he fun _ _ q=>hk q)
theorem k_count (hz:data.length≤lim) (hs:r <:+data) (h:eU (pcount r) (fun p=>Q (.int p.1) (σ++cur data p.2::τ)) (fun x=>∀c,X x (σ++c::τ))):wpCall (d+4) .take_count [.obj σ.length] (σ++cur data r::τ) Q X:=by
 refine ent [some (.obj σ.length),none] rfl rfl ?_
 refine sA (aZ (aB rfl) bB rfl aG ?_)
 refine dP hs h (fun _ _ b=>b _) fun n r' hn h hs' _=>?_
 by_cases q:r'.length < n
 ·refine sI (eP ((aB rfl).run (aZ (aB rfl) bB rfl aG (k_left hs' ((eS (decide_eq_true (bH.mpr q))).run (pIt ?_))))))
  have h2:=oE hn rfl
  refine sX (dW (e_fstr (f_s (f_e rfl ((aB (v:=.int n) rfl).run ⟨h2,f_s (f_e rfl (aZ (aB rfl) bB rfl aG (k_left hs' ⟨dD q h2,LE rfl,?_⟩)))⟩)))))
  exact h.t q _
 ·refine sI (eP (Ev.run (aB rfl) (aZ (aB rfl) bB rfl aG ?_)))
  refine k_left hs' ?_
  refine eI.rF (eS (decide_eq_false (nlt q))) (pI0 (sR (Ev.run (aB rfl) ?_)))
  exact h.e q
theorem r_count {f:Nat×List Nat→Except Ex β} (hz:data.length≤lim) (hs:r <:+data) (h:eU (bnd (pcount r) f) C B) (he:∀x,pcount r=.error x→B x→∀c,X x (σ++c::τ))
  (hk:∀v r',v≤r'.length→eU (f (v,r')) C B→r' <:+data→pcount r=.ok (v,r')→Q (.int v) (σ++cur data r'::τ)):wpCall (d+4) .take_count [.obj σ.length] (σ++cur data r::τ) Q X:=by
 refine k_count hz hs (h.bnd he fun p e q=>?_)
 have z:eU (bnd (pv r) fun p=>if p.2.length < p.1 then .error .ShortOctets else .ok p) (fun a=>a=p) (fun _=>False):=by
  have e':=e
  unfold pcount at e'
  rw [e'];rfl
 have:p.1≤p.2.length∧p.2 <:+data:=by
  cases e2:pv r with
  | error x=>exact (z.er e2).elim
  | ok a=>
   have z:=z.k e2
   by_cases w:a.2.length < a.1
   ·exact (z.t w).elim
   ·have z:a=p:=z.e w
    exact z▸⟨bU w,(pv_spec e2 hs).2⟩
 exact hk p.1 p.2 this.1 q this.2 e
end
section
variable {d:Nat} {σ0 σ:aN} {Q:V→aN→Prop} {X:Ex→aN→Prop} {i j:Nat} {data r:List Nat}
theorem j6 {e:eN} (h:Q .none (σ++[e.o])):wpCall (d+1) .Entry_init [.obj σ.length,.int e.t,.int e.i,.int e.k,.bytes e.d] (σ++[.inst .Entry []]) Q X:=by
 refine ent [some (.obj σ.length),some (.int e.t),some (.int e.i),some (.int e.k),some (.bytes e.d)] rfl rfl ?_
 refine sAt (Ev.run (aB rfl) (jR (aB rfl) aQ rfl dN (sAt (Ev.run (aB rfl) (jR (aB rfl) aQ rfl dN (sAt (Ev.run (aB rfl) (jR (aB rfl) aQ rfl dN (sAt (Ev.run (aB rfl) (jR (aB rfl) aQ rfl dN (s0 ?_))))))))))))
 exact h
theorem c_Entry_row {e:eN} (hi:σ[i]? =some e.o) (h:Q e.row σ):wpCall (d+1) .Entry_row [.obj i] σ Q X:=by
 refine ent [some (.obj i)] rfl rfl ?_
 refine sR (Ev.run (fJ (aD (a9 (aB rfl) hi rfl) (aD (a9 (aB rfl) hi rfl) (aD (a9 (aB rfl) hi rfl) (aD (a9 (aB rfl) hi rfl) aG)))) rfl) ?_)
 exact h
theorem c_Entry_copy {e:eN} (hi:σ[i]? =some e.o) (h:Q (.obj σ.length) (σ++[e.o])):wpCall (d+2) .Entry_copy [.obj i] σ Q X:=by
 refine ent [some (.obj i)] rfl rfl ?_
 refine sR (eQ (aD (a9 (aB rfl) hi rfl) (aD (a9 (aB rfl) hi rfl) (aD (a9 (aB rfl) hi rfl) (aD (a9 (aB rfl) hi rfl) aG)))) ?_)
 exact j6 (nq h)
theorem jG {n:Nat} (hn:n≤18446744073709551615) (h:Q (.int ((groups n).length:Nat)) σ):wpCall (d+1) .varint_length [.int n] σ Q X:=by
 refine ent [some (.int n),none] rfl rfl ?_
 have h2:¬18446744073709551615 < n:=bK.mpr hn
 refine iV (t_or (dH (aB rfl) aH (d0 (decide_eq_false nneg))) (dH (aB rfl) (iX rfl) (eS (decide_eq_false (nlt h2))))) (sA (Ev.run aH ?_))
 refine sW (I:=fun k m σ'=>∃c,m=[some (.int (k:Nat)),some (.int (c:Nat))]∧σ'=σ∧c+(groups k).length=(groups n).length+1) n ⟨1,rfl,rfl,eY _ _⟩ fun k R hR m σ' hI=>?_
 obtain ⟨c,rfl,rfl,hg⟩:=hI
 by_cases hk:k < 128
 ·have h3:¬128≤k:=Nat.not_le.mpr hk
  refine nI.run (b:=false) (dH (aB rfl) aH (iN (decide_eq_false (nle h3)))) (wh_f ?_)
  refine sR (Ev.run (aB rfl) ?_)
  rw [gD hk] at hg
  rw [Nat.succ.inj hg]
  exact h
 ·have h3:128≤k:=bU hk
  refine nI.run (b:=true) (dH (aB rfl) aH (iN (decide_eq_true (cC.mpr h3)))) (wh_t (sG rfl aH b_shr (sG rfl aH cE (s0 (hR (k / 128) _ _ (lt128 hk) ⟨c+1,rfl,rfl,?_⟩)))))
  rw [jS hk] at hg
  exact (Nat.succ_add_eq_add_succ _ _).trans hg
theorem c_Entry_size {e:eN} (hk:e.Ok) (hi:σ[i]? =some e.o) (h:Q (.int (e.enc.length:Nat)) σ):wpCall (d+2) .Entry_size [.obj i] σ Q X:=by
 refine ent [some (.obj i),none,none] rfl rfl ?_
 refine sA (Ev.run (gM (a9 (aB rfl) hi rfl)) (sA (cR (cR (aP (aD (a9 (aB rfl) hi rfl) aG) ?_)))))
 refine jG hk.t ?_
 refine aP (aD (a9 (aB rfl) hi rfl) aG) ?_
 refine jG hk.i (cE.run ?_)
 refine aP (aD (a9 (aB rfl) hi rfl) aG) ?_
 refine jG hk.k (cE.run ?_)
 refine sR (cR (cR (Ev.run (aB rfl) (aP (aD (aB rfl) aG) ?_))))
 refine jG (aA hk.d (by decide)) (cE.run ((aB rfl).run (cE.run ?_)))
 unfold eN.enc lenB at h
 rw [aF,aF,aF,aF,←c4] at h
 exact h
theorem m7 {e:eN} (hk:e.Ok) (hi:σ[i]? =some e.o) (h:∀σ',σ <+:σ'→Q (.bytes e.enc) σ'):wpCall (d+4) .encode_entry [.obj i] σ Q X:=by
 refine ent [some (.obj i),none] rfl rfl ?_
 refine sA (eQ aG ?_)
 refine fE fun s1 S1=>?_
 refine nq (sE (aZ (aB rfl) (Sk.sink S1) rfl (aD (a9 (aB rfl) (Sk.old S1 hi) rfl) aG) ?_))
 refine bP S1 hk.t rfl fun s2 S2=>?_
 refine sE (aZ (aB rfl) (Sk.sink S2) rfl (aD (a9 (aB rfl) (Sk.old S2 hi) rfl) aG) ?_)
 refine bP S2 hk.i rfl fun s3 S3=>?_
 refine sE (aZ (aB rfl) (Sk.sink S3) rfl (aD (a9 (aB rfl) (Sk.old S3 hi) rfl) aG) ?_)
 refine bP S3 hk.k rfl fun s4 S4=>?_
 refine sE (aZ (aB rfl) (Sk.sink S4) rfl (aD (a9 (aB rfl) (Sk.old S4 hi) rfl) aG) ?_)
 refine cX S4 hk.d rfl fun s5 S5=>?_
 refine sR (aZ (aB rfl) (Sk.sink S5) rfl aG ?_)
 exact fS S5 (h _ S5.pre)
theorem c_encode_entry_bad {t:Int} {ix k:Nat} {dd:List Nat} (hz:t < 0∨18446744073709551615 < t) (hb:t.natAbs < 2 ^ 128) (hi:σ[i]? =some (.inst .Entry [(.term,.int t),(.index,.int ix),(.kind,.int k),(.data,.bytes dd)])) (h:∀σ',σ <+:σ'→X .BadOption σ'):wpCall (d+4) .encode_entry [.obj i] σ Q X:=by
 refine ent [some (.obj i),none] rfl rfl ?_
 refine sA (eQ aG ?_)
 refine fE fun σ1 S1=>?_
 refine nq (sE (aZ (aB rfl) (Sk.sink S1) rfl (aD (a9 (aB rfl) (Sk.old S1 hi) rfl) aG) ?_))
 exact j5 S1 hz hb (h _ S1.pre)
theorem c_decode_entry (hz:data.length≤lim) (h:eU (dEnt data) (fun e=>∀σ' k,σ <+:σ'→σ'[k]? =some e.o→Q (.obj k) σ') (fun x=>∀σ',σ <+:σ'→X x σ')):wpCall (d+5) .decode_entry [.bytes data] σ Q X:=by
 refine ent [some (.bytes data),none,none,none,none,none] rfl rfl ?_
 refine sA (eQ (aD (aB rfl) aG) ?_)
 refine k_init ?_
 refine nq (sA (aZ (aB rfl) aQ rfl aG ?_))
 refine dP fI h er0 fun t r1 _ h s1 _=>?_
 refine sA (aZ (aB rfl) aQ rfl aG ?_)
 refine dP s1 h er0 fun ix r2 _ h s2 _=>?_
 refine sA (aZ (aB rfl) aQ rfl aG ?_)
 refine dP s2 h er0 fun kk r3 hk h s3 _=>?_
 by_cases q0:kk≠0∧kk≠2
 ·have q1:¬kk=0:=q0.1
  have q2:¬kk=2:=q0.2
  have q3:=oE hk rfl
  refine mU (i8 (dH (aB rfl) (iX rfl) (c_neI (ne_t (neq q1)))) (dH (aB rfl) (iX rfl) (c_neI (ne_t (neq q2))))) ?_
  refine sX1 (ev_f (ef_s (lX rfl (aB rfl) q3 ef_n))) ?_
  exact h.t q0 _ (aW _ _)
 ·have qb:nI [some (.bytes data),some (.obj σ.length),some (.int t),some (.int ix),some (.int kk),none] (σ++[cur data r3]) (.and (.cmp .ne (.loc 4) (.glob 3)) (.cmp .ne (.loc 4) (.glob 4))) false:=by
   by_cases q1:kk=0
   ·exact t_anf (dH (aB rfl) (iX rfl) (c_neI (ne_f (congrArg Nat.cast q1))))
   ·have q2:kk=2:=Decidable.of_not_not fun z=>q0 ⟨q1,z⟩
    exact i8 (dH (aB rfl) (iX rfl) (c_neI (ne_t (neq q1)))) (dH (aB rfl) (iX rfl) (c_neI (ne_f (congrArg Nat.cast q2))))
  have h:=h.e q0
  refine iV qb ?_
  refine sA (aZ (aB rfl) aQ rfl aG ?_)
  refine fG hz s3 h er0 fun bb r4 h s4 _=>?_
  refine sE (aZ (aB rfl) aQ rfl aG ?_)
  refine r_done hz s4 h er0 fun h=>?_
  refine sR (eQ (aD (aB rfl) (aD (aB rfl) (aD (aB rfl) (aD (aB rfl) aG)))) ?_)
  exact j6 (e:=⟨t,ix,kk,bb⟩) (nq (h _ _ (by rw [aE];exact aW _ _) aQ))
end
end
section
noncomputable def cU (n:Nat):V:=.int n
theorem new_lst {σ τ:aN} {a b:AO}:σ++a::τ++[b]=σ++a::(τ++[b]):=by rw [aE];rfl
theorem lst_len {σ τ:aN} {a c:AO}:(σ++a::τ).length=(σ++c::τ).length:=by rw [aF,aF];rfl
theorem get_lst {σ τ:aN} {a b c:AO}:(σ++a::(τ++[b]))[(σ++c::τ).length]? =some b:=by
 rw [←new_lst,lst_len (c:=a)];exact aQ
theorem set_lst {σ τ:aN} {a b c e:AO}:(σ++a::(τ++[b])).set (σ++c::τ).length e=σ++a::(τ++[e]):=by
 rw [←new_lst,←new_lst,lst_len (c:=a)];exact dN
theorem get_lst0 {σ:aN} {a b c:AO}:(σ++[a,b])[(σ++[c]).length]? =some b:=get_lst (τ:=[])
theorem set_lst0 {σ:aN} {a b c e:AO}:(σ++[a,b]).set (σ++[c]).length e=σ++[a,e]:=set_lst (τ:=[])
theorem nil_or_snoc {α:Type} (l:List α):l=[]∨∃a b,l=a++[b]:=by
 rcases List.eq_nil_or_concat l with h | ⟨a,b,h⟩
 ·exact .inl h
 ·exact .inr ⟨a,b,h.trans List.concat_eq_append⟩
theorem nth_last {α β:Type} {f:α→β} {a:List α} {l:α}:nth ((a++[l]).map f) (-1)=some (f l):=by
 have e:(-1:Int)+(((a++[l]).map f).length:Nat)=(a.length:Nat):=by rw [aK,aF,List.length_singleton,Int.natCast_add,Int.add_comm];exact Int.add_neg_cancel_right _ _
 unfold nth
 rw [if_neg (by decide),e,if_pos (aV _),dJ,bI,←aK (f:=f)]
 exact aQ
theorem ne_last {α β:Type} {f:α→β} {a:List α} {l:α}:(!((a++[l]).map f).isEmpty)=true:=by cases a <;> rfl
noncomputable def kV (acc:List Nat) (n:Nat):Bool:=match acc.getLast? with
 | some l=>decide (n≤l)
 | none=>false
theorem lastLe_c {a:List Nat} {l n:Nat}:kV (a++[l]) n=decide (n≤l):=by unfold kV;rw [List.getLast?_concat]
noncomputable def pidsN:Nat→List Nat→List Nat→Except Ex (List Nat×List Nat)
 | 0,acc,r=>.ok (acc,r)
 | k+1,acc,r=>bnd (pv r) fun p=>if kV acc p.1=true then .error .Corrupt else pidsN k (acc++[p.1]) p.2
noncomputable def pids (r:List Nat):Except Ex (List Nat×List Nat):=bnd (pcount r) fun p=>pidsN p.1 [] p.2
theorem isRi {α:Type} {p:Except Ex α} {a:α} (h:p=.ok a):eU p (fun b=>b=a) (fun _=>False):=by subst h;rfl
theorem bnd_ok {α β:Type} {p:Except Ex α} {f:α→Except Ex β} {b:β} (h:bnd p f=.ok b):∃a,p=.ok a∧f a=.ok b:=by
 induction p with
 | error x=>exact eok h
 | ok a=>exact ⟨a,rfl,h⟩
theorem ite_ok {α:Type} {c:Prop} [Decidable c] {x:Ex} {p:Except Ex α} {a:α} (h:(if c then .error x else p)=.ok a):¬c∧p=.ok a:=by
 by_cases q:c
 ·rw [if_pos q] at h;exact eok h
 ·rw [if_neg q] at h;exact ⟨q,h⟩
theorem pidsN_spec:∀{k:Nat} {acc r:List Nat} {p:List Nat×List Nat},pidsN k acc r=.ok p→p.1.length=acc.length+k∧∃u,r=u++p.2
 | 0,_,_,_,h=>by obtain rfl:=Except.ok.inj h;exact ⟨rfl,[],rfl⟩
 | k+1,acc,r,p,h=>by
  refine hide fun Gx hGx=>?_
  obtain ⟨a,e,h⟩:=bnd_ok h
  obtain ⟨l,u,hu⟩:=pidsN_spec (ite_ok h).2
  obtain ⟨_,w,hw,_⟩:=mE e
  refine hGx ?_
  exact ⟨l.trans (by rw [aF];exact cZ _ _ _),w++u,by rw [hw,hu,aE]⟩
theorem pcount_spec {r:List Nat} {p:Nat×List Nat} (h:pcount r=.ok p):(∃u,r=u++p.2∧u≠[])∧p.1≤p.2.length:=by
 obtain ⟨a,e,h⟩:=bnd_ok h
 obtain ⟨q,h⟩:=ite_ok h
 obtain rfl:=Except.ok.inj h
 exact ⟨(mE e).2,bU q⟩
theorem pids_suf {r:List Nat} {p:List Nat×List Nat} (h:pids r=.ok p):∃u,r=u++p.2:=by
 obtain ⟨a,e,h⟩:=bnd_ok h
 obtain ⟨⟨w,hw,_⟩,_⟩:=pcount_spec e
 obtain ⟨_,u,hu⟩:=pidsN_spec h
 exact ⟨w++u,by rw [hw,hu,aE]⟩
theorem all_snoc {α:Type} {P:α→Prop} {a:List α} {x:α} (h:∀y∈a,P y) (q:P x):∀y∈a++[x],P y:=fun y hy=>
 (dS.mp hy).elim (h y) fun z=>(bJ.mp z)▸q
section
variable {d:Nat} {σ0 σ τ:aN} {Q:V→aN→Prop} {X:Ex→aN→Prop} {i j:Nat} {data r:List Nat}
theorem k_ids (hz:data.length≤lim) (hs:r <:+data) (h:eU (pids r) (fun p=>Q (.obj (σ++cur data r::τ).length) (σ++cur data p.2::(τ++[.list (p.1.map cU)]))) (fun x=>∀c l,X x (σ++c::(τ++[l])))):wpCall (d+5) .take_ids [.obj σ.length] (σ++cur data r::τ) Q X:=by
 refine ent [some (.obj σ.length),none,none,none] rfl rfl ?_
 refine sA (eA aG rfl (sFr (aP (aD (aB rfl) aG) ?_)))
 rw [new_lst]
 refine r_count hz hs h (fun _ _ b c=>b _ _) fun v r1 hv h s1 _=>?_
 have hvl:=aA hv (aA s1.length_le hz)
 refine pRg hvl (fun j m σ'=>∃(acc r':List Nat) (t o:Option V),m=[some (.obj σ.length),some (.obj (σ++cur data r::τ).length),t,o]∧σ'=σ++cur data r'::(τ++[.list (acc.map cU)])∧r' <:+data∧(∀x∈acc,x≤18446744073709551615)∧acc.length=j∧pidsN (v - j) acc r'=pidsN v [] r1)
  ⟨[],r1,none,none,rfl,rfl,s1,fun _ q=>(nomatch q),rfl,rfl⟩ (fun m σ' hI=>?_) fun j hj R hR m σ' hI=>?_
 ·refine hide fun Gx hGx=>?_
  obtain ⟨acc,r',t,o,rfl,rfl,s2,_,_,hp⟩:=hI
  refine hGx ?_
  rw [gK] at hp
  have h:eU (pidsN v [] r1) _ _:=h
  rw [←hp] at h
  refine sR (Ev.run (aB rfl) ?_)
  exact h
 ·obtain ⟨acc,r',t,o,rfl,rfl,s2,hall,hal,hp⟩:=hI
  have ej:v - j=(v - (j+1))+1:=(Nat.succ_pred_eq_of_pos (Nat.sub_pos_of_lt hj)).symm
  rw [ej] at hp
  have h:eU (pidsN v [] r1) _ _:=h
  rw [←hp] at h
  refine bd rfl ?_
  refine sA (aZ (aB rfl) bB rfl aG ?_)
  refine dP s2 h (fun _ _ b=>b _ _) fun nid r3 hn h s3 e=>?_
  have hlen:(acc.map cU).length < lim:=by rw [aK,hal];exact aJ hj hvl
  have go:¬kV acc nid=true→wpSs (wpCall (d+4)) (.cons (.sE (.meth (.loc 1) .append (.cons (.loc 3) .nil))) .nil) [some (.obj σ.length),some (.obj (σ++cur data r::τ).length),some (.int j),some (.int nid)] (σ++cur data r3::(τ++[.list (acc.map cU)])) (lpK R (o8 (wpCall (d+4)) (.cons (.sR (.loc 1)) .nil) (mV Q) (exK X))) (exK X):=by
   intro hc
   refine sE (e_app1 (xs:=acc.map cU) (aB rfl) get_lst (aB rfl) hlen set_lst (s0 (hR _ _ ⟨acc++[nid],r3,some (.int j),some (.int nid),rfl,?_,s3,all_snoc hall hn,?_,?_⟩)))
   ·rw [bI];rfl
   ·rw [aF,hal];rfl
   ·rw [←hp]
    show _=bnd (pv r') _
    rw [e]
    exact (if_neg hc).symm
  rcases nil_or_snoc acc with rfl | ⟨a',l,rfl⟩
  ·have z:((!(List.map cU []).isEmpty):Bool)=false:=rfl
   refine iV (t_anf (t_loT rfl get_lst z)) (go fun z=>nomatch z)
  ·have hl:=oE (hall l (a8 _ (.head _))) rfl
   have z:=nth_last (f:=cU) (a:=a') (l:=l)
   have tl:nI [some (.obj σ.length),some (.obj (σ++cur data r::τ).length),some (.int j),some (.int nid)] (σ++cur data r3::(τ++[.list ((a'++[l]).map cU)])) (.loc 1) true:=t_loT rfl get_lst ne_last
   have xl:Ev [some (.obj σ.length),some (.obj (σ++cur data r::τ).length),some (.int j),some (.int nid)] (σ++cur data r3::(τ++[.list ((a'++[l]).map cU)])) (.idx (.loc 1) (.neg (.cI 1))) (.int l):=iL (aB rfl) get_lst (ev_ng aH) z
   by_cases hc:nid≤l
   ·refine mU (i8 tl (dH (aB rfl) xl (c_leI (decide_eq_true (cC.mpr hc))))) ?_
    refine sX1 (ev_f (ef_s (lX rfl (aB rfl) (oE hn rfl) (ef_s (lX rfl xl hl ef_n))))) ?_
    exact h.t (lastLe_c.trans (decide_eq_true hc)) _ _
   ·refine iV (i8 tl (dH (aB rfl) xl (c_leI (decide_eq_false (nle hc))))) (go fun z=>?_)
    rw [lastLe_c] at z
    exact hc (of_decide_eq_true z)
theorem r_ids {β:Type} {C:β→Prop} {B:Ex→Prop} {f:List Nat×List Nat→Except Ex β} (hz:data.length≤lim) (hs:r <:+data) (h:eU (bnd (pids r) f) C B) (he:∀x,pids r=.error x→B x→∀c l,X x (σ++c::(τ++[l])))
  (hk:∀v r',eU (f (v,r')) C B→r' <:+data→pids r=.ok (v,r')→Q (.obj (σ++cur data r::τ).length) (σ++cur data r'::(τ++[.list (v.map cU)]))):wpCall (d+5) .take_ids [.obj σ.length] (σ++cur data r::τ) Q X:=
 k_ids hz hs (h.bnd he fun p e q=>hk p.1 p.2 q (let ⟨_,u⟩:=pids_suf e;jP u hs) e)
noncomputable def eM (ids:List Nat):List Nat:=groups ids.length++(ids.map groups).flatten
theorem mG {α:Type} {g:α→List Nat} {a:List α} {x:α}:((a++[x]).map g).flatten=(a.map g).flatten++g x:=by
 rw [bI,List.flatten_append]
 exact congrArg _ (bF _)
theorem j2 {α:Type} {g:α→List Nat} {N:Nat}:∀{xs:List α},(∀x∈xs,(g x).length≤N)→((xs.map g).flatten).length≤xs.length*N
 | [],_=>cV _
 | x::r,h=>by
  rw [kI,lV,cK,jW,eY _ N]
  exact bY (h x (.head _)) (j2 fun y hy=>h y (.tail _ hy))
theorem c_put_ids {b ids:List Nat} {l N:Nat} (hS:Sk σ0 b N σ) (hi:σ0[l]? =some (.list (ids.map cU))) (hm:∀x∈ids,x≤18446744073709551615) (hn:ids.length≤8) (hb:Nat.ble (N+90) 1000000=true) (q:∀σ',Sk σ0 (b++eM ids) (N+90) σ'→Q .none σ'):wpCall (d+4) .put_ids [.obj σ0.length,.obj l] σ Q X:=by
 refine ent [some (.obj σ0.length),some (.obj l),none] rfl rfl ?_
 have hl:(ids.map cU).length=ids.length:=aK _
 have n10:ids.length≤18446744073709551615:=aA hn (by decide)
 have zb:∀a,a≤N+90→Nat.ble (a+10) 1048576=true:=fun a h=>dX (aA (d9 (aA h (LE hb)) 10) (by decide))
 refine sE (aZ (aB rfl) hS.sink rfl (aD (ev_lo (aB rfl) (hS.old hi)) aG) ?_)
 rw [hl]
 refine bP hS n10 (zb _ (aU _ _)) fun s1 S1=>?_
 refine sF rfl ((aB rfl).run (pFo (f:=cU) (xs:=ids) (fun a c m σ'=>∃t,m=[some (.obj σ0.length),some (.obj l),t]∧Sk σ0 (b++groups ids.length++(a.map groups).flatten) (N+10+a.length*10) σ') ⟨none,rfl,by rw [iS,hU,bF];exact S1⟩ (fun a c m σ' hI=>?_) (fun m σ' hI=>?_) fun a x c e R hR m σ' hI=>?_))
 ·obtain ⟨t,_,S⟩:=hI
  exact S.old hi
 ·obtain ⟨t,rfl,S⟩:=hI
  refine s0 (q _ ⟨?_,?_⟩)
  ·unfold eM;rw [←aE];exact S.ext
  ·exact bY hS.len (aA (bY (oP n10) (j2 fun x hx=>oP (hm x hx))) (aT (bA 10 hn) 10))
 ·obtain ⟨t,rfl,S⟩:=hI
  have la:a.length≤8:=aA (by rw [←e,aF];exact aU _ _) hn
  refine bd rfl ?_
  refine sE (aZ (aB rfl) (Sk.sink S) rfl (aD (aB rfl) aG) ?_)
  refine bP S (hm x (e▸a8 _ (.head _))) (zb _ (c4 N 10 _▸aT (aT (bA 10 la) 10) N)) fun s3 S3=>s0 (hR _ _ ⟨_,rfl,?_⟩)
  rw [mG,←aE,aF,Nat.add_mul]
  exact S3
noncomputable def ddp:List Int→List Int→List Int
 | acc,[]=>acc
 | acc,n::r=>if acc.getLast? =some n then ddp acc r else ddp (acc++[n]) r
theorem ddp_cons (acc:List Int) (n:Int) (r:List Int):ddp acc (n::r)=if acc.getLast? =some n then ddp acc r else ddp (acc++[n]) r:=rfl
noncomputable def srt (ns:List Int):List Int:=ns.foldl (fun l a=>jE a l) []
theorem insertI_len (a:Int):∀l,(jE a l).length=l.length+1
 | []=>rfl
 | b::r=>by
  show (if b≤a then b::jE a r else a::b::r).length=_
  by_cases q:b≤a
  ·rw [if_pos q];exact congrArg (·+1) (insertI_len a r)
  ·rw [if_neg q];rfl
theorem srt_len (ns:List Int):(srt ns).length=ns.length:=by
 have:∀(ns acc:List Int),(ns.foldl (fun l a=>jE a l) acc).length=acc.length+ns.length:=by
  intro ns
  induction ns with
  | nil=>exact fun acc=>rfl
  | cons a r ih=>exact fun acc=>(ih _).trans (by rw [insertI_len];exact Nat.succ_add_eq_add_succ _ _)
 exact (this ns []).trans (fL _)
theorem c_rising {ns:List Int} (hi:σ[i]? =some (.list (ns.map V.int))) (hn:ns.length≤16) (h:∀σ',σ <+:σ'→σ'[σ.length]? =some (.list ((ddp [] (srt ns)).map V.int))→Q (.obj σ.length) σ'):wpCall (d+1) .rising [.obj i] σ Q X:=by
 refine ent [some (.obj i),none,none] rfl rfl ?_
 have hL:(σ++[AO.list []]).length=σ.length+1:=aF
 have g1:∀l,(σ++[AO.list l,.list ((srt ns).map V.int)])[σ.length+1]? =some (.list ((srt ns).map V.int)):=fun l=>by
  rw [cG (aU _ 1),dO];rfl
 refine sA (eA aG rfl (sF rfl (fH ((aB rfl).run (p_srt (cL hi) hn ?_)))))
 rw [hL,aE]
 refine pFo (f:=V.int) (xs:=srt ns) (fun a c m σ'=>∃acc t,m=[some (.obj i),some (.obj σ.length),t]∧σ'=σ++[.list (acc.map V.int),.list ((srt ns).map V.int)]∧ddp acc c=ddp [] (srt ns)∧acc.length≤a.length) ⟨[],none,rfl,rfl,rfl,bD _⟩
  (fun a c m σ' hI=>?_) (fun m σ' hI=>?_) fun a x c e R hR m σ' hI=>?_
 ·obtain ⟨acc,t,_,rfl,_,_⟩:=hI
  exact g1 _
 ·obtain ⟨acc,t,rfl,rfl,hd,_⟩:=hI
  refine sR (Ev.run (aB rfl) ?_)
  exact h _ (aW _ _) (by rw [←hd];exact bB)
 ·obtain ⟨acc,t,rfl,rfl,hd,hl⟩:=hI
  have la:a.length+1≤16:=by
   have:=congrArg List.length e
   rw [srt_len,aF,cK] at this
   exact aA (aA (aT (bX (cV _)) _) (cP this)) hn
  have hlen:(acc.map V.int).length < lim:=by rw [aK];exact aS (aA hl (aA (eJ _) la)) (by decide)
  have go:¬acc.getLast? =some x→wpSs (wpCall d) (.cons (.sE (.meth (.loc 1) .append (.cons (.loc 2) .nil))) .nil) [some (.obj i),some (.obj σ.length),some (.int x)] (σ++[.list (acc.map V.int),.list ((srt ns).map V.int)]) (o8 (wpCall d) .nil (lpK R (o8 (wpCall d) (.cons (.sR (.loc 1)) .nil) (mV Q) (exK X))) (exK X)) (exK X):=fun hc=>by
   rw [ddp_cons,if_neg hc] at hd
   refine sE (e_app1 (aB rfl) bB (aB rfl) hlen dT (s0q (s0 ?_)))
   exact hR _ _ ⟨acc++[x],some (.int x),rfl,by rw [bI];rfl,hd,by rw [aF,aF];exact d9 hl 1⟩
  refine bd rfl ?_
  rcases nil_or_snoc acc with rfl | ⟨a',l,rfl⟩
  ·exact mU (t_ort (t_nt (t_loT rfl bB rfl))) (go fun z=>nomatch z)
  ·have tl:nI [some (.obj i),some (.obj σ.length),some (.int x)] (σ++[.list ((a'++[l]).map V.int),.list ((srt ns).map V.int)]) (.not (.loc 1)) false:=t_nf (t_loT rfl bB ne_last)
   have xl:Ev [some (.obj i),some (.obj σ.length),some (.int x)] (σ++[.list ((a'++[l]).map V.int),.list ((srt ns).map V.int)]) (.idx (.loc 1) (.neg (.cI 1))) (.int l):=iL (aB rfl) bB (ev_ng aH) nth_last
   by_cases hc:l=x
   ·subst hc
    refine iV (t_or tl (dH xl (aB rfl) (c_neI (ne_f rfl)))) (s0 (hR _ _ ⟨_,_,rfl,rfl,?_,?_⟩))
    ·rw [ddp_cons,if_pos List.getLast?_concat] at hd;exact hd
    ·rw [aF (as:=a)];exact aA hl (eJ _)
   ·exact mU (t_or tl (dH xl (aB rfl) (c_neI (ne_t hc)))) (go fun z=>hc (Option.some.inj (List.getLast?_concat.symm.trans z)))
end
end
section
structure Cf where
 v:List Nat
 l:List Nat
 o:List Nat
 n:List Nat
 a:Bool
noncomputable abbrev idsO (ids:List Nat):AO:=.list (ids.map cU)
noncomputable abbrev IsL (σ:aN) (i:Nat) (ids:List Nat):Prop:=σ[i]? =some (idsO ids)
noncomputable def confO (i1 i2 i3 i4:Nat) (a:Bool):AO:=.inst .ConfState [(.voters,.obj i1),(.learners,.obj i2),(.outgoing,.obj i3),(.learners_next,.obj i4),(.auto_leave,.bool a)]
noncomputable def stl:AO→Bool
 | .inst .Cursor _=>false
 | .inst .Message _=>false
 | .barr _=>false
 | _=>true
theorem stl_ne {a o:AO} (ha:stl a=false) (ho:stl o=true):a≠o:=fun e=>Bool.noConfusion (ha.symm.trans ((congrArg stl e).trans ho))
inductive kD (σ:aN) (k:Nat) (c:Cf):Prop
 | mk (i1 i2 i3 i4:Nat) (h0:σ[k]? =some (confO i1 i2 i3 i4 c.a)) (h1:IsL σ i1 c.v) (h2:IsL σ i2 c.l) (h3:IsL σ i3 c.o) (h4:IsL σ i4 c.n)
inductive kN (lo:Nat) (σ:aN) (k:Nat) (c:Cf):Prop
 | mk (i1 i2 i3 i4:Nat) (h0:σ[k]? =some (confO i1 i2 i3 i4 c.a)) (h1:IsL σ i1 c.v) (h2:IsL σ i2 c.l) (h3:IsL σ i3 c.o) (h4:IsL σ i4 c.n) (l0:lo≤k) (l1:lo≤i1) (l2:lo≤i2) (l3:lo≤i3) (l4:lo≤i4)
section
variable {lo lo':Nat} {σ σ':aN} {k:Nat} {c:Cf}
theorem kN.at (h:kN lo σ k c):kD σ k c:=by
 obtain ⟨i1,i2,i3,i4,h0,h1,h2,h3,h4⟩:=h
 exact ⟨i1,i2,i3,i4,h0,h1,h2,h3,h4⟩
theorem kD.imp (f:∀(i:Nat) (o:AO),stl o=true→σ[i]? =some o→σ'[i]? =some o) (h:kD σ k c):kD σ' k c:=by
 obtain ⟨i1,i2,i3,i4,h0,h1,h2,h3,h4⟩:=h
 exact ⟨i1,i2,i3,i4,f _ _ rfl h0,f _ _ rfl h1,f _ _ rfl h2,f _ _ rfl h3,f _ _ rfl h4⟩
theorem kN.imp (f:∀(i:Nat) (o:AO),lo≤i→stl o=true→σ[i]? =some o→σ'[i]? =some o) (h:kN lo σ k c):kN lo σ' k c:=by
 obtain ⟨i1,i2,i3,i4,h0,h1,h2,h3,h4,l0,l1,l2,l3,l4⟩:=h
 exact ⟨i1,i2,i3,i4,f _ _ l0 rfl h0,f _ _ l1 rfl h1,f _ _ l2 rfl h2,f _ _ l3 rfl h3,f _ _ l4 rfl h4,l0,l1,l2,l3,l4⟩
theorem kN.low (h:kN lo σ k c) (q:lo'≤lo):kN lo' σ k c:=by
 obtain ⟨i1,i2,i3,i4,h0,h1,h2,h3,h4,l0,l1,l2,l3,l4⟩:=h
 exact ⟨i1,i2,i3,i4,h0,h1,h2,h3,h4,aA q l0,aA q l1,aA q l2,aA q l3,aA q l4⟩
theorem kD.mono (p:σ <+:σ') (h:kD σ k c):kD σ' k c:=h.imp fun _ _ _ e=>bZ p e
theorem kN.mono (p:σ <+:σ') (h:kN lo σ k c):kN lo σ' k c:=h.imp fun _ _ _ _ e=>bZ p e
end
noncomputable def Cf.enc (c:Cf):List Nat:=eM c.v++eM c.l++eM c.o++eM c.n++[c.a.toNat]
noncomputable def Cf.row (c:Cf):V:=.tup [.tup (c.v.map cU),.tup (c.l.map cU),.tup (c.o.map cU),.tup (c.n.map cU),.bool c.a]
noncomputable def natI (ids:List Nat):List Int:=ids.map fun (n:Nat)=>(n:Int)
structure IdsOk (ids:List Nat):Prop where
 len:ids.length≤8
 le:∀x∈ids,x≤18446744073709551615
 fix:ddp [] (srt (natI ids))=natI ids
structure Cf.Ok (c:Cf):Prop where
 v:IdsOk c.v
 l:IdsOk c.l
 o:IdsOk c.o
 n:IdsOk c.n
noncomputable def Rises (ns ids:List Nat):Prop:=ns.length≤16∧ddp [] (srt (natI ns))=natI ids
theorem intV_map (ids:List Nat):ids.map cU=(natI ids).map V.int:=by unfold natI;rw [fN];rfl
theorem IdsOk.rises {ids:List Nat} (h:IdsOk ids):Rises ids ids:=⟨aA h.len (by decide),h.fix⟩
theorem pF {ids:List Nat} (h:IdsOk ids):(eM ids).length≤90:=aA (bY (oP (aA h.len (by decide))) (j2 fun x hx=>oP (h.le x hx))) (aT (bA 10 h.len) 10)
theorem Cf.length (c:Cf) (h:c.Ok):c.enc.length≤400:=aA (bY (bY (bY (bY (pF h.v) (pF h.l)) (pF h.o)) (pF h.n)) (bD 1)) (by decide)
section
variable {d:Nat} {σ0 σ τ:aN} {Q:V→aN→Prop} {X:Ex→aN→Prop} {i j:Nat} {data r:List Nat}
theorem c_rises {ns ids:List Nat} (hi:IsL σ i ns) (hr:Rises ns ids) (h:∀σ' k,σ <+:σ'→σ.length≤k→IsL σ' k ids→Q (.obj k) σ'):wpCall (d+1) .rising [.obj i] σ Q X:=by
 unfold IsL idsO at hi
 rw [intV_map] at hi
 refine c_rising hi (aA (cP (aK _)) hr.1) fun σ' p e=>h σ' _ p (bD _) ?_
 unfold IsL idsO
 rw [intV_map,e,hr.2]
theorem len1 {α:Type} {l:List α} {a:α}:(l++[a]).length=l.length+1:=by rw [aF];rfl
structure IsG (lo:Nat) (σ:aN) (k:Nat) (ids:List Nat):Prop where
 g:IsL σ k ids
 l:lo≤k
theorem pre_set1 {s:aN} {a b:AO} (p:σ++[a] <+:s):σ++[b] <+:s.set σ.length b:=by
 obtain ⟨t,rfl⟩:=p
 rw [aE]
 exact ⟨t,by rw [aE];exact dT.symm⟩
theorem st_rises {s:aN} {o:AO} {n:At} {jj:Nat} {ns ids:List Nat} {r:M} {m:Lo} {K:Fl→Lo→aN→Prop} {X:Ex→Lo→aN→Prop} (p:σ++[o] <+:s) (hi:IsL σ i ns) (hr:Rises ns ids) (hm:cD m 0=some (.obj σ.length)) (hj:cD m jj=some (.obj i)) (ho:roomO o=true)
  (h:∀s' k,(∀k ids,IsG (σ.length+1) s k ids→IsG (σ.length+1) s' k ids)→σ++[nK n (.obj k) o] <+:s'→IsG (σ.length+1) s' k ids→wpSs (wpCall (d+1)) r m s' K X):wpSs (wpCall (d+1)) (.cons (.sAt (.loc 0) n (.call .rising (.cons (.loc jj) .nil))) r) m s K X:=by
 refine sAt (aP (aD (aB hj) aG) (c_rises (bZ ((aW _ _).trans p) hi) hr fun s' k q l e=>?_))
 have p':=p.trans q
 have l':σ.length+1≤k:=aA (aA (cP len1.symm) p.length_le) l
 refine jR (aB hm) (bZ p' aQ) ho rfl (h _ k (fun k ids g=>⟨?_,g.l⟩) (pre_set1 p') ⟨?_,l'⟩)
 ·exact cT (bZ q g.g) (cJ g.l)
 ·exact cT e (cJ l')
theorem j7 {i1 i2 i3 i4:Nat} {n1 n2 n3 n4:List Nat} {c:Cf} (h1:IsL σ i1 n1) (h2:IsL σ i2 n2) (h3:IsL σ i3 n3) (h4:IsL σ i4 n4) (r1:Rises n1 c.v) (r2:Rises n2 c.l) (r3:Rises n3 c.o) (r4:Rises n4 c.n)
  (h:∀σ',σ <+:σ'→kN σ.length σ' σ.length c→Q .none σ'):wpCall (d+2) .ConfState_init [.obj σ.length,.obj i1,.obj i2,.obj i3,.obj i4,.bool c.a] (σ++[.inst .ConfState []]) Q X:=by
 refine ent [some (.obj σ.length),some (.obj i1),some (.obj i2),some (.obj i3),some (.obj i4),some (.bool c.a)] rfl rfl ?_
 refine st_rises dM h1 r1 rfl rfl rfl fun s1 k1 f1 p1 g1=>?_
 refine st_rises p1 h2 r2 rfl rfl rfl fun s2 k2 f2 p2 g2=>?_
 refine st_rises p2 h3 r3 rfl rfl rfl fun s3 k3 f3 p3 g3=>?_
 refine st_rises p3 h4 r4 rfl rfl rfl fun s4 k4 f4 p4 g4=>?_
 refine sAt ((aB rfl).run (jR (aB rfl) (bZ p4 aQ) rfl rfl (s0 ?_)))
 have p5:=pre_set1 (b:=confO k1 k2 k3 k4 c.a) p4
 have g:∀{k ids},IsG (σ.length+1) s4 k ids→IsL (s4.set σ.length (confO k1 k2 k3 k4 c.a)) k ids:=fun g=>cT g.g (cJ g.l)
 have z:∀{s k ids},IsG (σ.length+1) s k ids→σ.length≤k:=fun g=>b6 g.l
 exact h _ ((aW _ _).trans p5) ⟨k1,k2,k3,k4,bZ p5 aQ,g (f4 _ _ (f3 _ _ (f2 _ _ g1))),g (f4 _ _ (f3 _ _ g2)),g (f4 _ _ g3),g g4,bD _,z g1,z g2,z g3,z g4⟩
theorem c_ConfState_row {c:Cf} (hc:kD σ i c) (h:Q c.row σ):wpCall (d+1) .ConfState_row [.obj i] σ Q X:=by
 obtain ⟨i1,i2,i3,i4,h0,h1,h2,h3,h4⟩:=hc
 refine ent [some (.obj i)] rfl rfl ?_
 unfold IsL idsO at h1 h2 h3 h4
 refine sR (Ev.run (fJ (aD (oW (a9 (aB rfl) h0 rfl) h1) (aD (oW (a9 (aB rfl) h0 rfl) h2) (aD (oW (a9 (aB rfl) h0 rfl) h3) (aD (oW (a9 (aB rfl) h0 rfl) h4) (aD (a9 (aB rfl) h0 rfl) aG))))) rfl) ?_)
 exact h
theorem c_ConfState_copyF {c:Cf} (hk:c.Ok) (hc:kD σ i c) (h:∀σ' k,σ <+:σ'→σ.length≤k→kN σ.length σ' k c→Q (.obj k) σ'):wpCall (d+3) .ConfState_copy [.obj i] σ Q X:=by
 obtain ⟨i1,i2,i3,i4,h0,h1,h2,h3,h4⟩:=hc
 refine ent [some (.obj i)] rfl rfl ?_
 refine sR (eQ (aD (a9 (aB rfl) h0 rfl) (aD (a9 (aB rfl) h0 rfl) (aD (a9 (aB rfl) h0 rfl) (aD (a9 (aB rfl) h0 rfl) (aD (a9 (aB rfl) h0 rfl) aG))))) ?_)
 exact j7 h1 h2 h3 h4 hk.v.rises hk.l.rises hk.o.rises hk.n.rises fun σ' p e=>nq (h _ _ p (bD _) e)
theorem c_encode_conf {c:Cf} (hk:c.Ok) (hc:kD σ i c) (h:∀σ',σ <+:σ'→Q (.bytes c.enc) σ'):wpCall (d+5) .encode_conf [.obj i] σ Q X:=by
 obtain ⟨i1,i2,i3,i4,h0,h1,h2,h3,h4⟩:=hc
 refine ent [some (.obj i),none] rfl rfl ?_
 refine sA (eQ aG ?_)
 refine fE fun s1 S1=>?_
 refine nq (sE (aP (aD (aB rfl) (aD (a9 (aB rfl) (Sk.old S1 h0) rfl) aG)) ?_))
 refine c_put_ids S1 h1 hk.v.le hk.v.len rfl fun s2 S2=>?_
 refine sE (aP (aD (aB rfl) (aD (a9 (aB rfl) (Sk.old S2 h0) rfl) aG)) ?_)
 refine c_put_ids S2 h2 hk.l.le hk.l.len rfl fun s3 S3=>?_
 refine sE (aP (aD (aB rfl) (aD (a9 (aB rfl) (Sk.old S3 h0) rfl) aG)) ?_)
 refine c_put_ids S3 h3 hk.o.le hk.o.len rfl fun s4 S4=>?_
 refine sE (aP (aD (aB rfl) (aD (a9 (aB rfl) (Sk.old S4 h0) rfl) aG)) ?_)
 refine c_put_ids S4 h4 hk.n.le hk.n.len rfl fun s5 S5=>?_
 refine sE (aZ (aB rfl) (Sk.sink S5) rfl (aD (a9 (aB rfl) (Sk.old S5 h0) rfl) aG) ?_)
 refine iO S5 rfl fun s6 S6=>?_
 refine sR (aZ (aB rfl) (Sk.sink S6) rfl aG ?_)
 exact fS S6 (h _ S6.pre)
noncomputable def nZ (data:List Nat):Except Ex Cf:=bnd (pids data) fun a=>bnd (pids a.2) fun b=>bnd (pids b.2) fun c=>bnd (pids c.2) fun e=>bnd (pf e.2) fun f=>bnd (pd f.2) fun _=>.ok ⟨a.1,b.1,c.1,e.1,f.1⟩
theorem er1 {P:Ex→Prop} {Y:Ex→aN→Prop} {τ:aN}:∀x,P x→(∀σ',σ <+:σ'→Y x σ')→∀c l,Y x (σ++c::(τ++[l])):=fun _ _ b _ _=>b _ (aW _ _)
theorem er2 {P:Ex→Prop} {Y:Ex→aN→Prop} {τ:aN}:∀x,P x→(∀σ',σ <+:σ'→Y x σ')→∀c,Y x (σ++c::τ):=fun _ _ b _=>b _ (aW _ _)
theorem c_decode_conf (hz:data.length≤lim) (hb:∀x∈data,x < 256) (hk:∀c,nZ data=.ok c→c.Ok) (h:eU (nZ data) (fun c=>∀σ' k,σ <+:σ'→kD σ' k c→Q (.obj k) σ') (fun x=>∀σ',σ <+:σ'→X x σ')):wpCall (d+6) .decode_conf [.bytes data] σ Q X:=by
 refine ent [some (.bytes data),none,none,none,none,none,none] rfl rfl ?_
 have hk:eU (nZ data) Cf.Ok (fun _=>True):=eU.of (fun _ _=>trivial) hk
 refine sA (eQ (aD (aB rfl) aG) ?_)
 refine k_init ?_
 refine nq (sA (aP (aD (aB rfl) aG) ?_))
 refine r_ids hz fI h er1 fun n1 r1 h s1 e=>?_
 have hk:=hk.k e
 clear e
 refine sA (aP (aD (aB rfl) aG) ?_)
 refine r_ids hz s1 h er1 fun n2 r2 h s2 e=>?_
 have hk:=hk.k e
 clear e
 refine sA (aP (aD (aB rfl) aG) ?_)
 refine r_ids hz s2 h er1 fun n3 r3 h s3 e=>?_
 have hk:=hk.k e
 clear e
 refine sA (aP (aD (aB rfl) aG) ?_)
 refine r_ids hz s3 h er1 fun n4 r4 h s4 e=>?_
 have hk:=hk.k e
 clear e
 refine sA (aZ (aB rfl) bB rfl aG ?_)
 refine r_flag hb s4 h er2 fun f r5 h s5 e=>?_
 have hk:=hk.k e
 clear e
 refine sE (aZ (aB rfl) bB rfl aG ?_)
 refine k_done hz s5 (h.bnd er0 fun _ e h=>?_)
 have K:Cf.Ok _:=hk.k e
 have I:∀(j:Nat) (a:AO) (x:List Nat) (A B:aN),j=σ.length+1+A.length→IsL (σ++a::(A++idsO x::B)) j x:=fun j a x A B hj=>by
  subst hj
  show (σ++([a]++(A++idsO x::B)))[_]? =_
  rw [←aE,←aE,show σ.length+1+A.length=(σ++[a]++A).length by rw [aF,aF];rfl]
  exact bB
 have L:∀(a:AO) (A:aN),(σ++a::A).length=σ.length+1+A.length:=fun a A=>by rw [aF,cK,c4,eY 1]
 refine sR (eQ (aD (aB rfl) (aD (aB rfl) (aD (aB rfl) (aD (aB rfl) (aD (aB rfl) aG))))) ?_)
 exact j7 (c:=⟨n1,n2,n3,n4,f⟩) (I _ _ n1 [] [idsO n2,idsO n3,idsO n4] (L _ _)) (I _ _ n2 [idsO n1] [idsO n3,idsO n4] (L _ _)) (I _ _ n3 [idsO n1,idsO n2] [idsO n4] (L _ _)) (I _ _ n4 [idsO n1,idsO n2,idsO n3] [] (L _ _)) K.v.rises K.l.rises K.o.rises K.n.rises fun σ' p e=>nq (h _ _ ((aW _ _).trans p) e.at)
end
end
section
structure Sn where
 i:Nat
 t:Nat
 c:Cf
 d:List Nat
noncomputable def snapO (s:Sn) (kc:Nat):AO:=.inst .Snapshot [(.index,.int s.i),(.term,.int s.t),(.conf,.obj kc),(.data,.bytes s.d)]
inductive jM (σ:aN) (k:Nat) (s:Sn):Prop
 | mk (kc:Nat) (h0:σ[k]? =some (snapO s kc)) (h1:kD σ kc s.c)
inductive lZ (lo:Nat) (σ:aN) (k:Nat) (s:Sn):Prop
 | mk (kc:Nat) (h0:σ[k]? =some (snapO s kc)) (h1:kN lo σ kc s.c) (l:lo≤k)
section
variable {lo lo':Nat} {σ σ':aN} {k:Nat} {s:Sn}
theorem lZ.at (h:lZ lo σ k s):jM σ k s:=by
 obtain ⟨kc,a,b,_⟩:=h;exact ⟨kc,a,b.at⟩
theorem jM.imp (f:∀(i:Nat) (o:AO),stl o=true→σ[i]? =some o→σ'[i]? =some o) (h:jM σ k s):jM σ' k s:=by
 obtain ⟨kc,a,b⟩:=h;exact ⟨kc,f _ _ rfl a,b.imp f⟩
theorem lZ.imp (f:∀(i:Nat) (o:AO),lo≤i→stl o=true→σ[i]? =some o→σ'[i]? =some o) (h:lZ lo σ k s):lZ lo σ' k s:=by
 obtain ⟨kc,a,b,l⟩:=h;exact ⟨kc,f _ _ l rfl a,b.imp f,l⟩
theorem lZ.low (h:lZ lo σ k s) (q:lo'≤lo):lZ lo' σ k s:=by
 obtain ⟨kc,a,b,l⟩:=h;exact ⟨kc,a,b.low q,aA q l⟩
theorem jM.mono (p:σ <+:σ') (h:jM σ k s):jM σ' k s:=h.imp fun _ _ _ e=>bZ p e
end
noncomputable def Sn.enc (s:Sn):List Nat:=groups s.i++groups s.t++lenB s.c.enc++lenB s.d
noncomputable def Sn.row (s:Sn):V:=.tup [.int s.i,.int s.t,s.c.row,.bytes s.d]
structure Sn.Ok (s:Sn):Prop where
 i:s.i≤18446744073709551615
 t:s.t≤18446744073709551615
 c:s.c.Ok
 d:s.d.length≤10000
theorem Sn.length (s:Sn) (h:s.Ok):s.enc.length≤20000:=aA (bY (bY (bY (oP h.i) (oP h.t)) (gB (s.c.length h.c) rfl)) (gB h.d rfl)) (by decide)
noncomputable def dSnap (data:List Nat):Except Ex Sn:=bnd (pv data) fun a=>bnd (pv a.2) fun b=>bnd (pl b.2) fun c=>bnd (nZ c.1) fun cf=>bnd (pl c.2) fun e=>bnd (pd e.2) fun _=>.ok ⟨a.1,b.1,cf,e.1⟩
theorem pl_mem {r:List Nat} {p:List Nat×List Nat} (h:pl r=.ok p):(∀x∈p.1,x∈r)∧p.1.length≤r.length:=by
 obtain ⟨u,rfl,_⟩:=pl_suf h
 refine ⟨fun x hx=>a8 _ (dQ _ hx),?_⟩
 rw [aF,aF]
 exact aA (aU _ _) (eK _ _)
theorem pl_in {r data:List Nat} {p:List Nat×List Nat} (h:pl r=.ok p) (s:r <:+data) (hz:data.length≤lim) (hb:∀x∈data,x < 256):p.1.length≤lim∧∀x∈p.1,x < 256:=
 ⟨aA (pl_mem h).2 (aA s.length_le hz),fun x hx=>hb x (s.subset ((pl_mem h).1 x hx))⟩
section
variable {d:Nat} {σ0 σ τ:aN} {Q:V→aN→Prop} {X:Ex→aN→Prop} {i j:Nat} {data r:List Nat}
theorem k8 {s:Sn} {kc:Nat} (h:Q .none (σ++[snapO s kc])):wpCall (d+1) .Snapshot_init [.obj σ.length,.int s.i,.int s.t,.obj kc,.bytes s.d] (σ++[.inst .Snapshot []]) Q X:=by
 refine ent [some (.obj σ.length),some (.int s.i),some (.int s.t),some (.obj kc),some (.bytes s.d)] rfl rfl ?_
 refine sAt (Ev.run (aB rfl) (jR (aB rfl) aQ rfl dN (sAt (Ev.run (aB rfl) (jR (aB rfl) aQ rfl dN (sAt (Ev.run (aB rfl) (jR (aB rfl) aQ rfl dN (sAt (Ev.run (aB rfl) (jR (aB rfl) aQ rfl dN (s0 ?_))))))))))))
 exact h
theorem c_Snapshot_row {s:Sn} (hs:jM σ i s) (h:Q s.row σ):wpCall (d+2) .Snapshot_row [.obj i] σ Q X:=by
 obtain ⟨kc,h0,h1⟩:=hs
 obtain ⟨i1,i2,i3,i4,hc,_⟩:=id h1
 refine ent [some (.obj i)] rfl rfl ?_
 refine sR (lR (dW (Ev.run (a9 (aB rfl) h0 rfl) (dW (Ev.run (a9 (aB rfl) h0 rfl) (dW (aZ (a9 (aB rfl) h0 rfl) hc rfl aG ?_)))))))
 refine c_ConfState_row h1 ?_
 refine iB.run (aD (a9 (aB rfl) h0 rfl) aG) (p_tu rfl ?_)
 exact h
theorem c_Snapshot_copyF {s:Sn} (hk:s.Ok) (hs:jM σ i s) (h:∀σ' k,σ <+:σ'→σ.length≤k→lZ σ.length σ' k s→Q (.obj k) σ'):wpCall (d+4) .Snapshot_copy [.obj i] σ Q X:=by
 obtain ⟨kc,h0,h1⟩:=hs
 obtain ⟨i1,i2,i3,i4,hc,_⟩:=id h1
 refine ent [some (.obj i)] rfl rfl ?_
 refine sR (e_newc (dW (Ev.run (a9 (aB rfl) h0 rfl) (dW (Ev.run (a9 (aB rfl) h0 rfl) (dW (aZ (a9 (aB rfl) h0 rfl) hc rfl aG ?_)))))))
 refine c_ConfState_copyF hk.c h1 fun s1 k1 p1 g1 e1=>?_
 refine iB.run (aD (a9 (aB rfl) (bZ p1 h0) rfl) aG) ?_
 exact k8 (nq (h _ _ (p1.trans (aW _ _)) p1.length_le ⟨k1,aQ,e1.mono (aW _ _),p1.length_le⟩))
theorem oA {s:Sn} (hk:s.Ok) (hs:jM σ i s) (h:∀σ',σ <+:σ'→Q (.bytes s.enc) σ'):wpCall (d+6) .encode_snapshot [.obj i] σ Q X:=by
 obtain ⟨kc,h0,h1⟩:=hs
 refine ent [some (.obj i),none] rfl rfl ?_
 refine sA (eQ aG ?_)
 refine fE fun s1 S1=>?_
 refine nq (sE (aZ (aB rfl) (Sk.sink S1) rfl (aD (a9 (aB rfl) (Sk.old S1 h0) rfl) aG) ?_))
 refine bP S1 hk.i rfl fun s2 S2=>?_
 refine sE (aZ (aB rfl) (Sk.sink S2) rfl (aD (a9 (aB rfl) (Sk.old S2 h0) rfl) aG) ?_)
 refine bP S2 hk.t rfl fun s3 S3=>?_
 refine sE (e_meth1 (aB rfl) (Sk.sink S3) rfl (dW (aP (aD (a9 (aB rfl) (Sk.old S3 h0) rfl) aG) ?_)))
 refine c_encode_conf hk.c (h1.mono S3.pre) fun s4 p4=>?_
 have S4:=S3.mono p4
 refine iB.run aG ?_
 refine cX S4 (s.c.length hk.c) rfl fun s5 S5=>?_
 refine sE (aZ (aB rfl) (Sk.sink S5) rfl (aD (a9 (aB rfl) (Sk.old S5 h0) rfl) aG) ?_)
 refine cX S5 hk.d rfl fun s6 S6=>?_
 refine sR (aZ (aB rfl) (Sk.sink S6) rfl aG ?_)
 exact fS S6 (h _ S6.pre)
theorem get_swap {a b o:AO} (h:(σ++a::τ)[i]? =some o) (hn:a≠o):(σ++b::τ)[i]? =some o:=by
 rcases Nat.lt_or_ge i σ.length with q | q
 ·rw [bT q] at h ⊢;exact h
 ·rw [cG q] at h ⊢
  cases hj:i - σ.length with
  | zero=>rw [hj] at h;exact absurd (Option.some.inj h) hn
  | succ k=>rw [hj] at h;exact h
theorem mT {a b:AO} (ha:stl a=false):∀(i:Nat) (o:AO),stl o=true→(σ++a::τ)[i]? =some o→(σ++b::τ)[i]? =some o:=fun _ _ q h=>get_swap h (stl_ne ha q)
noncomputable def snGood (c:List Nat):Prop:=eU (bnd (pv c) fun a=>bnd (pv a.2) fun b=>bnd (pl b.2) fun c'=>nZ c'.1) Cf.Ok (fun _=>True)
theorem oB (hz:data.length≤lim) (hb:∀x∈data,x < 256) (hk:snGood data) (h:eU (dSnap data) (fun s=>∀σ' k,σ <+:σ'→jM σ' k s→Q (.obj k) σ') (fun x=>∀σ',σ <+:σ'→X x σ')):wpCall (d+7) .decode_snapshot [.bytes data] σ Q X:=by
 refine ent [some (.bytes data),none,none,none,none,none] rfl rfl ?_
 refine sA (eQ (aD (aB rfl) aG) ?_)
 refine k_init ?_
 refine nq (sA (aZ (aB rfl) aQ rfl aG ?_))
 refine dP fI h er0 fun ix r1 _ h s1 e=>?_
 have hk:=hk.k e
 clear e
 refine sA (aZ (aB rfl) aQ rfl aG ?_)
 refine dP s1 h er0 fun tm r2 _ h s2 e=>?_
 have hk:=hk.k e
 clear e
 refine sA (cM (dW (aZ (aB rfl) aQ rfl aG ?_)))
 refine fG hz s2 h er0 fun cb r3 h s3 e=>?_
 have hk:eU (nZ cb) Cf.Ok (fun _=>True):=hk.k e
 obtain ⟨iz,ib⟩:=pl_in e s2 hz hb
 clear e
 refine iB.run aG ?_
 refine c_decode_conf iz ib (fun c e=>by rw [e] at hk;exact hk) (eU.bnd h (fun _ _ b σ' p=>b _ ((aW _ _).trans p)) fun cf _ h σ' kc p hc=>?_)
 obtain ⟨t,rfl⟩:=p
 have e2:σ++[cur data r3]++t=σ++cur data r3::t:=aE _ _ _
 rw [e2] at hc ⊢
 refine sA (aZ (aB rfl) bB rfl aG ?_)
 refine fG hz s3 h er0 fun bd r4 h s4 e=>?_
 clear e
 refine sE (aZ (aB rfl) bB rfl aG ?_)
 refine r_done hz s4 h er0 fun h=>?_
 refine sR (eQ (aD (aB rfl) (aD (aB rfl) (aD (aB rfl) (aD (aB rfl) aG)))) ?_)
 exact k8 (s:=⟨ix,tm,cf,bd⟩) (nq (h _ _ ((aW _ _).trans (aW _ _)) ⟨kc,aQ,(hc.imp (mT rfl)).mono (aW _ _)⟩))
end
end
section
structure Ms where
 k:Nat
 to:Nat
 fr:Nat
 tm:Nat
 lt:Nat
 ix:Nat
 cm:Nat
 hn:Nat
 rj:Bool
 es:List eN
 sn:Option Sn
 cx:List Nat
noncomputable def jJ (m:Ms) (le:Nat) (sv:V):AO:=.inst .Message [(.kind,.int m.k),(.to,.int m.to),(.frm,.int m.fr),(.term,.int m.tm),(.log_term,.int m.lt),(.index,.int m.ix),(.entries,.obj le),(.commit,.int m.cm),(.snapshot,sv),(.reject,.bool m.rj),(.reject_hint,.int m.hn),(.context,.bytes m.cx)]
noncomputable abbrev PE:=Nat×eN
noncomputable def obP (p:PE):V:=.obj p.1
noncomputable abbrev iH (ps:List PE):AO:=.list (ps.map obP)
noncomputable def dV (σ:aN) (ps:List PE):Prop:=∀p∈ps,σ[p.1]? =some p.2.o
inductive SnV (σ:aN):V→Option Sn→Prop
 | no:SnV σ .none none
 | so {k:Nat} {s:Sn}:jM σ k s→SnV σ (.obj k) (some s)
inductive nE (σ:aN) (k:Nat) (m:Ms):Prop
 | mk (le:Nat) (ps:List PE) (sv:V) (h0:σ[k]? =some (jJ m le sv)) (h1:σ[le]? =some (iH ps)) (h2:dV σ ps) (he:ps.map Prod.snd=m.es) (h3:SnV σ sv m.sn)
section
variable {σ σ':aN} {k:Nat} {m:Ms} {v:V} {s:Option Sn} {ps:List PE}
theorem dV.imp (f:∀(i:Nat) (o:AO),stl o=true→σ[i]? =some o→σ'[i]? =some o) (h:dV σ ps):dV σ' ps:=fun p hp=>f _ _ rfl (h p hp)
theorem dV.mono (p:σ <+:σ') (h:dV σ ps):dV σ' ps:=fun q hq=>bZ p (h q hq)
theorem SnV.imp (f:∀(i:Nat) (o:AO),stl o=true→σ[i]? =some o→σ'[i]? =some o) (h:SnV σ v s):SnV σ' v s:=by
 induction h with
 | no=>exact .no
 | so a=>exact .so (a.imp f)
theorem SnV.mono (p:σ <+:σ') (h:SnV σ v s):SnV σ' v s:=h.imp fun _ _ _ e=>bZ p e
theorem nE.mono (p:σ <+:σ') (h:nE σ k m):nE σ' k m:=by
 obtain ⟨le,ps,sv,h0,h1,h2,he,h3⟩:=h
 exact ⟨le,ps,sv,bZ p h0,bZ p h1,h2.mono p,he,h3.mono p⟩
theorem rows_of {es:List eN} (h:ps.map Prod.snd=es):ps.map (fun p=>p.2.row)=es.map eN.row:=by rw [←h,fN];rfl
end
noncomputable def nQ:Option Sn→V
 | none=>.none
 | some s=>s.row
noncomputable def Ms.row (m:Ms):V:=.tup [.int m.k,.int m.to,.int m.fr,.int m.tm,.int m.lt,.int m.ix,.tup (m.es.map eN.row),.int m.cm,nQ m.sn,.bool m.rj,.int m.hn,.bytes m.cx]
theorem new2 {σ:aN} {a b:AO}:σ++[a]++[b]=σ++[a,b]:=by rw [aE];rfl
section
variable {d:Nat} {σ0 σ τ:aN} {Q:V→aN→Prop} {X:Ex→aN→Prop} {i j:Nat} {data r:List Nat}
theorem m8 {k to fr tm:Nat} (h:Q .none (σ++[jJ ⟨k,to,fr,tm,0,0,0,0,false,[],none,[]⟩ (σ.length+1) .none,.list []])):wpCall (d+1) .Message_init [.obj σ.length,.int k,.int to,.int fr,.int tm] (σ++[.inst .Message []]) Q X:=by
 refine ent [some (.obj σ.length),some (.int k),some (.int to),some (.int fr),some (.int tm)] rfl rfl ?_
 refine sAt (Ev.run (aB rfl) (jR (aB rfl) aQ rfl dN (sAt (Ev.run (aB rfl) (jR (aB rfl) aQ rfl dN (sAt (Ev.run (aB rfl) (jR (aB rfl) aQ rfl dN (sAt (Ev.run (aB rfl) (jR (aB rfl) aQ rfl dN (sAt (Ev.run aH (jR (aB rfl) aQ rfl dN (sAt (Ev.run aH (jR (aB rfl) aQ rfl dN (sAt (eA aG rfl ?_)))))))))))))))))))
 rw [new2,len1]
 refine jR (aB rfl) bB rfl dT (sAt (Ev.run aH (jR (aB rfl) bB rfl dT (sAt (Ev.run eW (jR (aB rfl) bB rfl dT (sAt (Ev.run ev_b (jR (aB rfl) bB rfl dT (sAt (Ev.run aH (jR (aB rfl) bB rfl dT (sAt (Ev.run ev_y (jR (aB rfl) bB rfl dT (s0 ?_))))))))))))))))
 exact h
theorem c_Message_row {m:Ms} (hn:m.es.length≤100) (hm:nE σ i m) (h:∀σ',σ <+:σ'→Q m.row σ'):wpCall (d+3) .Message_row [.obj i] σ Q X:=by
 obtain ⟨le,ps,sv,h0,h1,h2,he,h3⟩:=hm
 refine ent [some (.obj i),none,none] rfl rfl ?_
 have hl:ps.length≤lim:=by
  rw [←he,aK] at hn
  exact aA hn (by decide)
 refine sA (fH (eC rfl (Ev.run (a9 (aB rfl) h0 rfl) ?_)))
 refine pCo (f:=obP) (xs:=ps) (fun p=>p.2.row) (fun _ s=>s=σ) rfl (fun a s e=>e▸h1) hl (fun s e=>?_) fun a x c e R hR s j=>⟨_,rfl,?_⟩
 ·subst e
  have h0':(s++[AO.list (ps.map fun p=>p.2.row)])[i]? =some (jJ m le sv):=cL h0
  have h:=h _ (aW s [AO.list (ps.map fun p=>p.2.row)])
  have h3:=h3.mono (aW s [AO.list (ps.map fun p=>p.2.row)])
  have eR:=rows_of he
  unfold Ms.row at h
  rw [←eR] at h
  generalize hsn:m.sn=sn at h3 h
  induction h3 with
  | no=>
   refine p_tup aQ (sA (Ev.run eW (iV (dH (a9 (aB rfl) h0' rfl) eW fA) (sR (Ev.run (fJ (aD (a9 (aB rfl) h0' rfl) (aD (a9 (aB rfl) h0' rfl) (aD (a9 (aB rfl) h0' rfl) (aD (a9 (aB rfl) h0' rfl) (aD (a9 (aB rfl) h0' rfl) (aD (a9 (aB rfl) h0' rfl) (aD (aB rfl) (aD (a9 (aB rfl) h0' rfl) (aD (aB rfl) (aD (a9 (aB rfl) h0' rfl) (aD (a9 (aB rfl) h0' rfl) (aD (a9 (aB rfl) h0' rfl) aG)))))))))))) rfl) ?_)))))
   exact h
  | so a=>
   obtain ⟨kc,g0,_⟩:=id a
   refine p_tup aQ (sA (Ev.run eW (mU (dH (a9 (aB rfl) h0' rfl) eW c_isnO) (sA (aZ (a9 (aB rfl) h0' rfl) g0 rfl aG ?_)))))
   refine c_Snapshot_row a ?_
   refine s0q (sR (Ev.run (fJ (aD (a9 (aB rfl) h0' rfl) (aD (a9 (aB rfl) h0' rfl) (aD (a9 (aB rfl) h0' rfl) (aD (a9 (aB rfl) h0' rfl) (aD (a9 (aB rfl) h0' rfl) (aD (a9 (aB rfl) h0' rfl) (aD (aB rfl) (aD (a9 (aB rfl) h0' rfl) (aD (aB rfl) (aD (a9 (aB rfl) h0' rfl) (aD (a9 (aB rfl) h0' rfl) (aD (a9 (aB rfl) h0' rfl) aG)))))))))))) rfl) ?_))
   exact h
 ·subst j
  have hx:=h2 x (e▸a8 _ (.head _))
  refine aZ (aB rfl) hx rfl aG ?_
  exact c_Entry_row hx (hR _ rfl)
end
end
section
noncomputable def fV:Option (List Nat)→V
 | none=>.none
 | some b=>.bytes b
noncomputable def jL:Option (List Nat)→List Nat
 | none=>[0]
 | some b=>1::lenB b
noncomputable def lK (n:Nat) (o:Option (List Nat)):Prop:=∀b,o=some b→b.length≤n
theorem pE {n:Nat} {o:Option (List Nat)} (h:lK n o) (q:Nat.ble n 4294967295=true):(jL o).length≤11+n:=by
 induction o with
 | none=>exact aA (show 1≤11 by decide) (aU _ _)
 | some b=>exact aA (bX (gB (h b rfl) q)) (cP (Nat.succ_add 10 n).symm)
noncomputable def pmaybe (r:List Nat):Except Ex (Option (List Nat)×List Nat):=bnd (pf r) fun a=>if a.1=true then bnd (pl a.2) fun c=>.ok (some c.1,c.2) else .ok (none,a.2)
noncomputable def dReply (data:List Nat):Except Ex (Nat×Option (List Nat)):=bnd (po data) fun a=>if 3 < a.1 then .error .Corrupt else bnd (pmaybe a.2) fun b=>bnd (pd b.2) fun _=>.ok (a.1,b.1)
noncomputable def dSess (data:List Nat):Except Ex (Nat×Bool×List Nat):=bnd (pv data) fun a=>bnd (pf a.2) fun b=>bnd (pl b.2) fun c=>bnd (pd c.2) fun _=>.ok (a.1,b.1,c.1)
theorem pmaybe_suf {r:List Nat} {p:Option (List Nat)×List Nat} (h:pmaybe r=.ok p):∃u,r=u++p.2:=by
 obtain ⟨a,e,h⟩:=bnd_ok h
 obtain ⟨u,hu,_⟩:=pf_suf e
 by_cases q:a.1=true
 ·rw [if_pos q] at h
  obtain ⟨c,e2,h⟩:=bnd_ok h
  obtain ⟨w,hw,_⟩:=pl_suf e2
  obtain rfl:=Except.ok.inj h
  exact ⟨u++(w++c.1),by rw [aE,aE,←hw];exact hu⟩
 ·rw [if_neg q] at h
  obtain rfl:=Except.ok.inj h
  exact ⟨u,hu⟩
section
variable {d:Nat} {σ0 σ τ:aN} {Q:V→aN→Prop} {X:Ex→aN→Prop} {i j N:Nat} {data r b:List Nat}
theorem c_kind_of_message (h:eU (pv data) (fun p=>Q (.int p.1) σ) (fun x=>X x σ)):wpCall (d+3) .kind_of_message [.bytes data] σ Q X:=by
 refine ent [some (.bytes data)] rfl rfl ?_
 refine sR (e_idx (aP (aD (aB rfl) (aD (v:=mW data data) (Ev.cast aH (by unfold mW;rw [gK];rfl)) aG)) (c_read_varint fI (eU.of (fun x e=>?_) fun p e=>?_))))
 ·rw [e] at h;exact h
 ·rw [e] at h
  refine Ev.run aH (p_ix rfl ?_)
  exact h
theorem c_put_maybe {o:Option (List Nat)} {n:Nat} (hS:Sk σ0 b N σ) (ho:lK n o) (hl:Nat.ble (N+1+(10+n)) 1048576=true) (q:∀σ',Sk σ0 (b++jL o) (N+1+(10+n)) σ'→Q .none σ'):wpCall (d+4) .put_maybe [.obj σ0.length,fV o] σ Q X:=by
 refine ent [some (.obj σ0.length),some (fV o)] rfl rfl ?_
 have hl1:Nat.ble (N+1) 1048576=true:=dX (aA (aU _ _) (LE hl))
 induction o with
 | none=>
  unfold fV
  refine sE (aZ (aB rfl) (Sk.sink hS) rfl (aD (ev_c (aB rfl) eW fA) aG) ?_)
  refine iO hS hl1 fun s2 S2=>?_
  refine iV (dH (aB rfl) eW fA) (s0 ?_)
  exact q _ ⟨S2.ext,aA S2.len (aU _ _)⟩
 | some x=>
  unfold fV
  refine sE (aZ (aB rfl) (Sk.sink hS) rfl (aD (ev_c (aB rfl) eW c_isnB) aG) ?_)
  refine iO hS hl1 fun s2 S2=>?_
  refine mU (dH (aB rfl) eW c_isnB) (sE (aZ (aB rfl) (Sk.sink S2) rfl (aD (aB rfl) aG) ?_))
  refine cX S2 (ho x rfl) hl fun s3 S3=>?_
  rw [aE] at S3
  refine s0q (s0 ?_)
  exact q _ S3
theorem k_maybe (hz:data.length≤lim) (hb:∀x∈data,x < 256) (hs:r <:+data) (h:eU (pmaybe r) (fun p=>Q (fV p.1) (σ++cur data p.2::τ)) (fun x=>∀c,X x (σ++c::τ))):wpCall (d+5) .take_maybe [.obj σ.length] (σ++cur data r::τ) Q X:=by
 refine ent [some (.obj σ.length)] rfl rfl ?_
 refine sI (t_val rfl (aZ (aB rfl) bB rfl aG ?_))
 refine r_flag hb hs h (fun _ _ b c=>b c) fun f r1 h s1 e=>?_
 clear e
 induction f with
 | false=>
  have h:Q (fV none) _:=h.e fun z=>nomatch z
  refine p_tb (pI0 (sR (Ev.run eW ?_)))
  exact h
 | true=>
  have h:=h.t rfl
  refine p_tb (pIt (sR (aZ (aB rfl) bB rfl aG ?_)))
  refine fG hz s1 h (fun _ _ b=>b _) fun bb r2 h s2 e=>?_
  exact h
theorem r_maybe {β:Type} {C:β→Prop} {B:Ex→Prop} {f:Option (List Nat)×List Nat→Except Ex β} (hz:data.length≤lim) (hb:∀x∈data,x < 256) (hs:r <:+data) (h:eU (bnd (pmaybe r) f) C B) (he:∀x,pmaybe r=.error x→B x→∀c,X x (σ++c::τ))
  (hk:∀v r',eU (f (v,r')) C B→r' <:+data→pmaybe r=.ok (v,r')→Q (fV v) (σ++cur data r'::τ)):wpCall (d+5) .take_maybe [.obj σ.length] (σ++cur data r::τ) Q X:=
 k_maybe hz hb hs (h.bnd he fun p e q=>hk p.1 p.2 q (let ⟨_,u⟩:=pmaybe_suf e;jP u hs) e)
theorem c_make_reply {code:Nat} {o:Option (List Nat)} (hc:code < 256) (ho:lK 10000 o) (h:∀σ',σ <+:σ'→Q (.bytes (code::jL o)) σ'):wpCall (d+5) .make_reply [.int code,fV o] σ Q X:=by
 refine ent [some (.int code),some (fV o),none] rfl rfl ?_
 refine sA (eQ aG ?_)
 refine fE fun s1 S1=>?_
 refine nq (sE (aZ (aB rfl) (Sk.sink S1) rfl (aD (aB rfl) aG) ?_))
 refine c_Sink_octet S1 hc rfl fun s2 S2=>?_
 refine sE (aP (aD (aB rfl) (aD (aB rfl) aG)) ?_)
 refine c_put_maybe S2 ho rfl fun s3 S3=>?_
 refine sR (aZ (aB rfl) (Sk.sink S3) rfl aG ?_)
 exact fS S3 (h _ S3.pre)
theorem po_mem {p:Nat×List Nat} (e:po r=.ok p):p.1∈r:=by
 induction r with
 | nil=>exact eok e
 | cons o r=>obtain rfl:=Except.ok.inj e;exact .head _
theorem c_read_reply (hz:data.length≤lim) (hb:∀x∈data,x < 256) (h:eU (dReply data) (fun p=>∀σ',σ <+:σ'→Q (.tup [.int p.1,fV p.2]) σ') (fun x=>∀σ',σ <+:σ'→X x σ')):wpCall (d+6) .read_reply [.bytes data] σ Q X:=by
 refine ent [some (.bytes data),none,none,none] rfl rfl ?_
 refine sA (eQ (aD (aB rfl) aG) ?_)
 refine k_init ?_
 refine nq (sA (aZ (aB rfl) aQ rfl aG ?_))
 refine r_octet fI h er0 fun code r1 h s1 e=>?_
 have h2:code < 2 ^ 128:=dD (hb _ (po_mem e)) (by decide)
 clear e
 by_cases hc:3 < code
 ·refine mU (dH (aB rfl) (iX rfl) (eS (decide_eq_true (bH.mpr hc)))) (sX1 (ev_f (lX rfl (aB rfl) h2 ef_n)) ?_)
  exact h.t hc _ (aW _ _)
 ·have h:=h.e hc
  refine iV (dH (aB rfl) (iX rfl) (eS (decide_eq_false (nlt hc)))) (sA (aP (aD (aB rfl) aG) ?_))
  refine r_maybe hz hb s1 h er2 fun v r2 h s2 e=>?_
  clear e
  refine sE (aZ (aB rfl) aQ rfl aG ?_)
  refine r_done hz s2 h er0 fun h=>?_
  refine sR (Ev.run (fJ (aD (aB rfl) (aD (aB rfl) aG)) rfl) ?_)
  exact h _ (aW _ _)
theorem c_encode_session {n L:Nat} {f:Bool} {x:List Nat} (hn:n≤18446744073709551615) (hx:x.length≤10000) (h:∀σ',σ <+:σ'→Q (.bytes (groups n++[f.toNat]++lenB x)) σ'):wpCall (d+4) .encode_session [.int n,.bool f,.bytes x] σ Q X:=by
 refine ent [some (.int n),some (.bool f),some (.bytes x),none] rfl rfl ?_
 refine sA (eQ aG ?_)
 refine fE fun s1 S1=>?_
 refine nq (sE (aZ (aB rfl) (Sk.sink S1) rfl (aD (aB rfl) aG) ?_))
 refine bP S1 hn rfl fun s2 S2=>?_
 refine sE (aZ (aB rfl) (Sk.sink S2) rfl (aD (aB rfl) aG) ?_)
 refine iO S2 rfl fun s3 S3=>?_
 refine sE (aZ (aB rfl) (Sk.sink S3) rfl (aD (aB rfl) aG) ?_)
 refine cX S3 hx rfl fun s4 S4=>?_
 refine sR (aZ (aB rfl) (Sk.sink S4) rfl aG ?_)
 exact fS S4 (h _ S4.pre)
theorem c_decode_session (hz:data.length≤lim) (hb:∀x∈data,x < 256) (h:eU (dSess data) (fun p=>∀σ',σ <+:σ'→Q (.tup [.int p.1,.bool p.2.1,.bytes p.2.2]) σ') (fun x=>∀σ',σ <+:σ'→X x σ')):wpCall (d+6) .decode_session [.bytes data] σ Q X:=by
 refine ent [some (.bytes data),none,none,none,none] rfl rfl ?_
 refine sA (eQ (aD (aB rfl) aG) ?_)
 refine k_init ?_
 refine nq (sA (aZ (aB rfl) aQ rfl aG ?_))
 refine dP fI h er0 fun n r1 _ h s1 e=>?_
 clear e
 refine sA (aZ (aB rfl) aQ rfl aG ?_)
 refine r_flag hb s1 h er2 fun f r2 h s2 e=>?_
 clear e
 refine sA (aZ (aB rfl) aQ rfl aG ?_)
 refine fG hz s2 h er0 fun bb r3 h s3 e=>?_
 clear e
 refine sE (aZ (aB rfl) aQ rfl aG ?_)
 refine r_done hz s3 h er0 fun h=>?_
 refine sR (Ev.run (fJ (aD (aB rfl) (aD (aB rfl) (aD (aB rfl) aG))) rfl) ?_)
 exact h _ (aW _ _)
noncomputable def cmdO (k c n:Int) (key val:List Nat) (ex:Option (List Nat)):AO:=.inst .Command [(.kind,.int k),(.client,.int c),(.number,.int n),(.key,.bytes key),(.value,.bytes val),(.expect,fV ex)]
noncomputable def hG (k c n:Nat) (key val:List Nat) (ex:Option (List Nat)):List Nat:=groups k++groups c++groups n++lenB key++lenB val++jL ex
variable {key val:List Nat} {ex:Option (List Nat)}
theorem m9 {k c n:Int} (h:Q .none (σ++[cmdO k c n key val ex])):wpCall (d+1) .Command_init [.obj σ.length,.int k,.int c,.int n,.bytes key,.bytes val,fV ex] (σ++[.inst .Command []]) Q X:=by
 refine ent [some (.obj σ.length),some (.int k),some (.int c),some (.int n),some (.bytes key),some (.bytes val),some (fV ex)] rfl rfl ?_
 refine sAt (Ev.run (aB rfl) (jR (aB rfl) aQ rfl dN (sAt (Ev.run (aB rfl) (jR (aB rfl) aQ rfl dN (sAt (Ev.run (aB rfl) (jR (aB rfl) aQ rfl dN (sAt (Ev.run (aB rfl) (jR (aB rfl) aQ rfl dN (sAt (Ev.run (aB rfl) (jR (aB rfl) aQ rfl dN (sAt (Ev.run (aB rfl) (jR (aB rfl) aQ rfl dN (s0 ?_))))))))))))))))))
 exact h
theorem c_Command_encode_kind {k c n:Int} (hi:σ[i]? =some (cmdO k c n key val ex)) (hk:k < 0∨6 < k) (hb:k.natAbs < 2 ^ 128) (h:X .BadCommand σ):wpCall (d+5) .Command_encode [.obj i] σ Q X:=by
 refine ent [some (.obj i),none] rfl rfl ?_
 rcases hk with q | q
 ·refine mU (t_ort (dH (a9 (aB rfl) hi rfl) (iX rfl) (d0 (decide_eq_true q)))) (sX1 (ev_f (ef_i rfl (a9 (aB rfl) hi rfl) hb ef_n)) ?_)
  exact h
 ·have q1:¬k < 0:=fun z=>absurd (Int.lt_trans q z) (by decide)
  refine mU (t_or (dH (a9 (aB rfl) hi rfl) (iX rfl) (d0 (decide_eq_false q1))) (dH (a9 (aB rfl) hi rfl) (iX rfl) (eS (decide_eq_true q)))) (sX1 (ev_f (ef_i rfl (a9 (aB rfl) hi rfl) hb ef_n)) ?_)
  exact h
theorem c_Command_encode {k c n:Nat} (hi:σ[i]? =some (cmdO k c n key val ex)) (hk:k≤6) (hc:c≤18446744073709551615) (hn:n≤18446744073709551615) (h1:key.length≤1000) (h2:val.length≤1000) (h3:lK 1000 ex) (h:∀σ',σ <+:σ'→Q (.bytes (hG k c n key val ex)) σ'):wpCall (d+5) .Command_encode [.obj i] σ Q X:=by
 refine ent [some (.obj i),none] rfl rfl ?_
 have q2:¬6 < k:=bK.mpr hk
 refine iV (t_or (dH (a9 (aB rfl) hi rfl) (iX rfl) (d0 (decide_eq_false nneg))) (dH (a9 (aB rfl) hi rfl) (iX rfl) (eS (decide_eq_false (nlt q2))))) (sA (eQ aG ?_))
 refine fE fun s1 S1=>?_
 refine nq (sTr (sE (aZ (aB rfl) (Sk.sink S1) rfl (aD (a9 (aB rfl) (Sk.old S1 hi) rfl) aG) ?_)))
 refine bP S1 (aA hk (by decide)) rfl fun s2 S2=>?_
 refine sE (aZ (aB rfl) (Sk.sink S2) rfl (aD (a9 (aB rfl) (Sk.old S2 hi) rfl) aG) ?_)
 refine bP S2 hc rfl fun s3 S3=>?_
 refine sE (aZ (aB rfl) (Sk.sink S3) rfl (aD (a9 (aB rfl) (Sk.old S3 hi) rfl) aG) ?_)
 refine bP S3 hn rfl fun s4 S4=>?_
 refine sE (aZ (aB rfl) (Sk.sink S4) rfl (aD (a9 (aB rfl) (Sk.old S4 hi) rfl) aG) ?_)
 refine cX S4 h1 rfl fun s5 S5=>?_
 refine sE (aZ (aB rfl) (Sk.sink S5) rfl (aD (a9 (aB rfl) (Sk.old S5 hi) rfl) aG) ?_)
 refine cX S5 h2 rfl fun s6 S6=>?_
 refine sE (aP (aD (aB rfl) (aD (a9 (aB rfl) (Sk.old S6 hi) rfl) aG)) ?_)
 refine c_put_maybe S6 h3 rfl fun s7 S7=>?_
 refine s0q (sR (aZ (aB rfl) (Sk.sink S7) rfl aG ?_))
 exact fS S7 (h _ S7.pre)
theorem c_Command_encode_bad {k:Nat} {c n:Int} (hi:σ[i]? =some (cmdO k c n key val ex)) (hk:k≤6) (hb1:c.natAbs < 2 ^ 128) (hb2:n.natAbs < 2 ^ 128) (hbad:(c < 0∨18446744073709551615 < c)∨(n < 0∨18446744073709551615 < n)) (h:∀σ',σ <+:σ'→X .BadCommand σ'):wpCall (d+5) .Command_encode [.obj i] σ Q X:=by
 refine ent [some (.obj i),none] rfl rfl ?_
 have q2:¬6 < k:=bK.mpr hk
 have hh:∀{s:aN} {m:Lo} {K:Fl→Lo→aN→Prop},σ <+:s→tryX (wpCall (d+4)) (.cons (.sX .BadCommand (.cons .cS .nil)) .nil) .BadOption K (exK X) .BadOption m s:=fun p=>pTr rfl (sX1 ev_s (h _ p))
 refine iV (t_or (dH (a9 (aB rfl) hi rfl) (iX rfl) (d0 (decide_eq_false nneg))) (dH (a9 (aB rfl) hi rfl) (iX rfl) (eS (decide_eq_false (nlt q2))))) (sA (eQ aG ?_))
 refine fE fun s1 S1=>?_
 refine nq (sTr (sE (aZ (aB rfl) (Sk.sink S1) rfl (aD (a9 (aB rfl) (Sk.old S1 hi) rfl) aG) ?_)))
 refine bP S1 (aA hk (by decide)) rfl fun s2 S2=>?_
 refine sE (aZ (aB rfl) (Sk.sink S2) rfl (aD (a9 (aB rfl) (Sk.old S2 hi) rfl) aG) ?_)
 by_cases hc:c < 0∨18446744073709551615 < c
 ·exact j5 S2 hc hb1 (hh S2.pre)
 ·obtain ⟨c',rfl⟩:∃c':Nat,c=c':=⟨c.toNat,(Int.toNat_of_nonneg (gP.mp fun z=>hc (.inl z))).symm⟩
  refine bP S2 (bU fun z=>hc (.inr (bH.mpr z))) rfl fun s3 S3=>?_
  refine sE (aZ (aB rfl) (Sk.sink S3) rfl (aD (a9 (aB rfl) (Sk.old S3 hi) rfl) aG) ?_)
  exact j5 S3 (hbad.resolve_left hc) hb2 (hh S3.pre)
end
end
section
noncomputable def Cor (x:Ex):Prop:=pC x .Corrupt=true
noncomputable def cH {α:Type} (p:Except Ex α):Prop:=∀x,p=.error x→Cor x
section
variable {α β:Type} {p q:Except Ex α} {f:α→Except Ex β} {c:Prop} [Decidable c]
theorem fW {a:α}:cH (.ok a:Except Ex α):=fun _ h=>eok h.symm
theorem cor_c:cH (.error .Corrupt:Except Ex α):=fun _ h=>by cases h;exact rfl
theorem cor_s:cH (.error .ShortOctets:Except Ex α):=fun _ h=>by cases h;exact rfl
theorem cH.bnd (h:cH p) (k:∀a,cH (f a)):cH (bnd p f):=fun x e=>by
 induction p with
 | ok a=>exact k a x e
 | error y=>obtain rfl:=Except.error.inj e;exact h _ rfl
theorem cH.ite (h:cH p) (k:cH q):cH (if c then p else q):=by
 by_cases z:c
 ·rw [if_pos z];exact h
 ·rw [if_neg z];exact k
theorem dK {most:Nat}:∀{k:Nat} {r:List Nat} {sh n:Nat},cH (vdec most k r sh n)
 | 0,_,_,_=>cor_c
 | _+1,[],_,_=>cor_s
 | _+1,_::_,_,_=>cH.ite (cH.ite cor_c fW) dK
theorem mX {r:List Nat}:cH (pl r):=cH.bnd dK fun _=>cH.ite cor_s fW
theorem pf_cor:∀{r:List Nat},cH (pf r)
 | []=>cor_s
 | _::_=>cH.ite cor_c fW
theorem po_cor:∀{r:List Nat},cH (po r)
 | []=>cor_s
 | _::_=>fW
theorem pd_cor:∀{r:List Nat},cH (pd r)
 | []=>fW
 | _::_=>cor_c
theorem pmaybe_cor {r:List Nat}:cH (pmaybe r):=cH.bnd pf_cor fun _=>cH.ite (cH.bnd mX fun _=>fW) fW
end
structure Cm where
 k:Nat
 c:Nat
 n:Nat
 key:List Nat
 val:List Nat
 ex:Option (List Nat)
noncomputable def Cm.o (m:Cm):AO:=cmdO m.k m.c m.n m.key m.val m.ex
noncomputable def pCmd (data:List Nat):Except Ex Cm:=bnd (pv data) fun a=>bnd (pv a.2) fun b=>bnd (pv b.2) fun c=>bnd (pl c.2) fun e=>bnd (pl e.2) fun f=>bnd (pmaybe f.2) fun g=>bnd (pd g.2) fun _=>.ok ⟨a.1,b.1,c.1,e.1,f.1,g.1⟩
noncomputable def le4 (n:Nat):List Nat:=[n % 256,n / 256 % 256,n / 65536 % 256,n / 16777216 % 256]
theorem and255 (n:Nat):n &&& 255=n % 256:=nC n 8
theorem and32 (n:Nat):n &&& 4294967295=n % 4294967296:=nC n 32
theorem d6 {α:Type} {P:α→Prop} {a:α} {l:List α} (h:P a) (k:∀x∈l,P x):∀x∈a::l,P x:=fun x hx=>(bN.mp hx).elim (fun e=>e▸h) (k x)
theorem fT {α:Type} {P:α→Prop}:∀x∈([]:List α),P x:=fun _ h=>absurd h List.not_mem_nil
theorem all_a {α:Type} {P:α→Prop} {a b:List α} (h:∀x∈a,P x) (k:∀x∈b,P x):∀x∈a++b,P x:=fun x hx=>(dS.mp hx).elim (h x) (k x)
theorem m256 {n:Nat}:n % 256 < 256:=fX _ (by decide)
theorem le4_lt {n:Nat}:∀x∈le4 n,x < 256:=d6 m256 (d6 m256 (d6 m256 (d6 m256 fT)))
section
variable {d:Nat} {σ0 σ τ:aN} {Q:V→aN→Prop} {X:Ex→aN→Prop} {i j:Nat} {data r:List Nat}
theorem c_decode_command (hz:data.length≤lim) (hb:∀x∈data,x < 256) (h:eU (pCmd data) (fun m=>if 6 < m.k then ∀σ',σ <+:σ'→X .BadCommand σ' else ∀σ' k,σ <+:σ'→σ'[k]? =some m.o→Q (.obj k) σ') (fun _=>∀σ',σ <+:σ'→X .BadCommand σ')):wpCall (d+6) .decode_command [.bytes data] σ Q X:=by
 refine ent [some (.bytes data),none,none,none,none,none,none,none] rfl rfl ?_
 have hh:∀{x:Ex} {m:Lo} {K:Fl→Lo→aN→Prop} {a:AO} {τ:aN},Cor x→(∀σ',σ <+:σ'→X .BadCommand σ')→tryX (wpCall (d+5)) (.cons (.sX .BadCommand (.cons .cS .nil)) .nil) .Corrupt K (exK X) x m (σ++a::τ):=fun hc h=>pTr hc (sX1 ev_s (h _ (aW _ _)))
 refine sTr (sA (eQ (aD (aB rfl) aG) ?_))
 refine k_init ?_
 refine nq (sA (aZ (aB rfl) aQ rfl aG ?_))
 refine dP fI h (fun x e b=>hh (dK x e) b) fun v1 r1 hk h s1 e=>?_
 clear e
 refine sA (aZ (aB rfl) aQ rfl aG ?_)
 refine dP s1 h (fun x e b=>hh (dK x e) b) fun v2 r2 _ h s2 e=>?_
 clear e
 refine sA (aZ (aB rfl) aQ rfl aG ?_)
 refine dP s2 h (fun x e b=>hh (dK x e) b) fun v3 r3 _ h s3 e=>?_
 clear e
 refine sA (aZ (aB rfl) aQ rfl aG ?_)
 refine fG hz s3 h (fun x e b=>hh (mX x e) b) fun v4 r4 h s4 e=>?_
 clear e
 refine sA (aZ (aB rfl) aQ rfl aG ?_)
 refine fG hz s4 h (fun x e b=>hh (mX x e) b) fun v5 r5 h s5 e=>?_
 clear e
 refine sA (aP (aD (aB rfl) aG) ?_)
 refine r_maybe hz hb s5 h (fun x e b c=>hh (pmaybe_cor x e) b) fun v6 r6 h s6 e=>?_
 clear e
 refine sE (aZ (aB rfl) aQ rfl aG ?_)
 refine r_done hz s6 h (fun x e b=>hh (pd_cor x e) b) fun h=>?_
 clear hh
 have h:if 6 < v1 then _ else _:=h
 by_cases q:6 < v1
 ·have q2:=oE hk rfl
  rw [if_pos q] at h
  refine s0q (mU (dH (aB rfl) (iX rfl) (eS (decide_eq_true (bH.mpr q)))) (sX1 (ev_f (lX rfl (aB rfl) q2 ef_n)) ?_))
  exact h _ (aW _ _)
 ·rw [if_neg q] at h
  refine s0q (iV (dH (aB rfl) (iX rfl) (eS (decide_eq_false (nlt q)))) (sR (eQ (aD (aB rfl) (aD (aB rfl) (aD (aB rfl) (aD (aB rfl) (aD (aB rfl) (aD (aB rfl) aG)))))) ?_)))
  exact m9 (nq (h _ _ (by rw [aE];exact aW _ _) aQ))
theorem p_bysN {p:Nat} {bs:List Nat} (h:σ[p]? =some (.list (bs.map cU))) (hr:∀x∈bs,x < 256) (q:Q (.bytes bs) σ):qB .bytes Q (.obj p) σ:=by
 rw [intV_map] at h
 refine p_bys h (fun n hn=>?_) ?_
 ·obtain ⟨x,hx,rfl⟩:=dE.mp hn
  exact ⟨aV _,bH.mpr (hr x hx)⟩
 ·unfold natI
  rw [fN,show Int.toNat ∘ (fun n:Nat=>(n:Int))=id from funext fun n=>dJ n,List.map_id]
  exact q
theorem div24 {n:Nat} (h:n≤4294967295):n / 16777216 % 256=n / 16777216:=hK (jN (aS h (by decide)))
theorem c_put_fixed32 {n:Nat} (hn:n≤4294967295) (h:∀τ,Q (.bytes (le4 n)) (σ++τ)):wpCall (d+1) .put_fixed32 [.int n] σ Q X:=by
 refine ent [some (.int n)] rfl rfl ?_
 have h2:¬4294967295 < n:=bK.mpr hn
 refine iV (t_or (dH (aB rfl) aH (d0 (decide_eq_false nneg))) (dH (aB rfl) (iX rfl) (eS (decide_eq_false (nlt h2))))) (sR (fH (eA (aD (b8 (aB rfl) aH b_and) (aD (b8 (b8 (aB rfl) aH b_shr) aH b_and) (aD (b8 (b8 (aB rfl) aH b_shr) aH b_and) (aD (b8 (aB rfl) aH b_shr) aG)))) rfl ?_)))
 have e:[n &&& 255,n / 2 ^ 8 &&& 255,n / 2 ^ 16 &&& 255,n / 2 ^ 24]=le4 n:=by
  rw [and255,and255,and255]
  unfold le4
  rw [div24 hn]
 have hr:=le4_lt (n:=n)
 have h:=h [.list ((le4 n).map cU)]
 rw [←e] at h hr
 exact p_bysN aQ hr h
noncomputable def le8 (n:Nat):List Nat:=le4 (n % 4294967296)++le4 (n / 4294967296)
theorem c_put_fixed64 {n:Nat} (hn:n≤18446744073709551615) (h:∀τ,Q (.bytes (le8 n)) (σ++τ)):wpCall (d+2) .put_fixed64 [.int n] σ Q X:=by
 refine ent [some (.int n)] rfl rfl ?_
 have h2:¬18446744073709551615 < n:=bK.mpr hn
 refine iV (t_or (dH (aB rfl) aH (d0 (decide_eq_false nneg))) (dH (aB rfl) (iX rfl) (eS (decide_eq_false (nlt h2))))) (sR (cR (aP (aD (Ev.cast (b8 (aB rfl) (iX rfl) b_and) (congrArg cU (and32 n))) aG) ?_)))
 refine c_put_fixed32 (bE (fX _ (by decide))) fun t1=>?_
 refine aP (aD (b8 (aB rfl) aH b_shr) aG) (c_put_fixed32 (bE (jN (aS hn (by decide)))) fun t2=>?_)
 rw [aE]
 exact (nA (bs:=le4 (n % 4294967296)) (cs:=le4 (n / 4294967296)) (LE rfl)).run (h _)
theorem c_session_key {n:Nat} (hn:n≤18446744073709551615) (h:∀τ,Q (.bytes (115::(le8 n).reverse)) (σ++τ)):wpCall (d+3) .session_key [.int n] σ Q X:=by
 refine ent [some (.int n),none] rfl rfl ?_
 refine sA (aP (aD (aB rfl) aG) ?_)
 refine c_put_fixed64 hn fun t1=>?_
 refine sR (cR (Ev.run (iX rfl) (fH (eA (aD (kJ (aB rfl) aH rfl) (aD (kJ (aB rfl) aH rfl) (aD (kJ (aB rfl) aH rfl) (aD (kJ (aB rfl) aH rfl) (aD (kJ (aB rfl) aH rfl) (aD (kJ (aB rfl) aH rfl) (aD (kJ (aB rfl) aH rfl) (aD (kJ (aB rfl) aH rfl) aG)))))))) rfl ?_))))
 have hr:∀x∈(le8 n).reverse,x < 256:=fun x hx=>all_a le4_lt le4_lt x (List.mem_reverse.mp hx)
 have h:=h (t1++[.list ((le8 n).reverse.map cU)])
 rw [←aE] at h
 exact p_bysN (bs:=(le8 n).reverse) aQ hr ((nA (bs:=[115]) (cs:=(le8 n).reverse) (LE rfl)).run h)
noncomputable def be (n:Nat) (bs:List Nat):Nat:=bs.foldl (fun n o=>n*256+o) n
theorem be_snoc {n x:Nat} {a:List Nat}:be n (a++[x])=be n a*256+x:=by unfold be;rw [List.foldl_append];rfl
theorem or_8 {n x:Nat} (h:x < 256):n*2 ^ 8 ||| x=n*256+x:=by
 rw [eX,←o5 (i:=8) h,eX]
theorem ev_tl {m:Lo} {k0:Nat} {bs:List Nat} (h:cD m 0=some (.bytes (k0::bs))):Ev m σ (.slc (.loc 0) (.blt .len (.cons (.glob 11) .nil)) .nil) (.bytes bs):=
 ⟨fun {W Q X} q=>e_slc ((aB h).run (.lenB (b:=[115]) (.bytes (l:=1) (h:=bs.length+1) ((congrArg some (oY (n:=bs.length+1) (k:=[115].length))).trans (congrArg some (kK (bX (cV _))))) rfl (by
  have:slice (k0::bs) 1 (bs.length+1)=bs:=by
   unfold slice
   rw [List.take_succ_cons,List.take_length];rfl
  rw [this];exact q))))⟩
theorem c_client_of {k0:Nat} {bs:List Nat} (hl:bs.length≤8) (hb:∀x∈bs,x < 256) (h:Q (.int (be 0 bs:Nat)) σ):wpCall (d+1) .client_of [.bytes (k0::bs)] σ Q X:=by
 refine ent [some (.bytes (k0::bs)),none,none] rfl rfl ?_
 refine sA (aH.run (sF rfl ((ev_tl rfl).run ?_)))
 refine pFb (fun a c m σ'=>∃t,σ'=σ∧m=[some (.bytes (k0::bs)),some (.int (be 0 a:Nat)),t]∧be 0 a < 256 ^ a.length) ⟨none,rfl,rfl,(by decide)⟩ (fun m σ' hI=>?_) fun a x c e R hR m σ' hI=>?_
 ·obtain ⟨t,rfl,rfl,_⟩:=hI
  refine sR (Ev.run (aB rfl) ?_)
  exact h
 ·obtain ⟨t,rfl,rfl,hlt⟩:=hI
  have hx:=hb x (e▸a8 _ (.head _))
  have la:a.length+1≤8:=aA (by rw [←e,aF,cK];exact aT (bX (cV _)) _) hl
  have big:be 0 a < 2 ^ 64:=aJ hlt (aA (nM (by decide) (aA (eJ _) la)) (by decide))
  refine bd rfl (sA ((Ev.cast (b8 (b8 (aB rfl) aH (b_shl (q:=8) (by decide) big)) (aB rfl) b_or) (congrArg cU (or_8 hx))).run (s0 (hR _ _ ⟨some (.int x),rfl,?_,?_⟩))))
  ·rw [be_snoc];rfl
  ·rw [be_snoc,aF]
   show _ < 256 ^ a.length*256
   exact aJ (gV hx _) (by rw [←jW];exact bA _ hlt)
end
end
section
noncomputable abbrev PN:=Nat×Nat
structure Ch where
 tr:Nat
 cs:List PN
 cx:List Nat
noncomputable def jQ (p:PN):V:=.tup [.int p.1,.int p.2]
noncomputable abbrev prsO (cs:List PN):AO:=.list (cs.map jQ)
noncomputable def chO (c:Ch) (l:Nat):AO:=.inst .ConfChange [(.transition,.int c.tr),(.changes,.obj l),(.context,.bytes c.cx)]
inductive ChAt (σ:aN) (k:Nat) (c:Ch):Prop
 | mk (l:Nat) (h0:σ[k]? =some (chO c l)) (h1:σ[l]? =some (prsO c.cs))
theorem ChAt.mono {σ σ':aN} {k:Nat} {c:Ch} (h:σ <+:σ') (e:ChAt σ k c):ChAt σ' k c:=by
 obtain ⟨l,h0,h1⟩:=e
 exact ⟨l,bZ h h0,bZ h h1⟩
noncomputable def Ch.row (c:Ch):V:=.tup [.int c.tr,.tup (c.cs.map jQ),.bytes c.cx]
noncomputable def encP1 (p:PN):List Nat:=groups p.1++groups p.2
noncomputable def encP (cs:List PN):List Nat:=(cs.map encP1).flatten
noncomputable def Ch.enc (c:Ch):List Nat:=groups c.tr++groups c.cs.length++encP c.cs++lenB c.cx
structure Ch.Ok (c:Ch):Prop where
 tr:c.tr≤18446744073709551615
 len:c.cs.length≤100
 le:∀p∈c.cs,p.1≤18446744073709551615∧p.2≤18446744073709551615
 cx:c.cx.length≤1000
theorem encP1_len {p:PN} (h:p.1≤18446744073709551615∧p.2≤18446744073709551615):(encP1 p).length≤20:=bY (oP h.1) (oP h.2)
theorem encP_len {cs:List PN} (h:∀p∈cs,p.1≤18446744073709551615∧p.2≤18446744073709551615):(encP cs).length≤cs.length*20:=j2 fun p hp=>encP1_len (h p hp)
theorem Ch.length (c:Ch) (h:c.Ok):c.enc.length≤4000:=aA (bY (bY (bY (oP h.tr) (oP (aA h.len (by decide)))) (aA (encP_len h.le) (bA 20 h.len))) (gB h.cx rfl)) (by decide)
noncomputable def jI:Nat→List PN→List Nat→Except Ex (List PN×List Nat)
 | 0,acc,r=>.ok (acc,r)
 | k+1,acc,r=>bnd (pv r) fun a=>if 3 < a.1 then .error .Corrupt else bnd (pv a.2) fun b=>jI k (acc++[(a.1,b.1)]) b.2
noncomputable def dCh (data:List Nat):Except Ex Ch:=if data.isEmpty=true then .ok ⟨0,[],[]⟩ else bnd (pv data) fun a=>if 2 < a.1 then .error .Corrupt else bnd (pcount a.2) fun n=>bnd (jI n.1 [] n.2) fun p=>bnd (pl p.2) fun c=>bnd (pd c.2) fun _=>.ok ⟨a.1,p.1,c.1⟩
theorem pairsN_len:∀{k:Nat} {acc:List PN} {r:List Nat} {p:List PN×List Nat},jI k acc r=.ok p→p.1.length=acc.length+k
 | 0,_,_,_,h=>by obtain rfl:=Except.ok.inj h;rfl
 | k+1,acc,r,p,h=>by
  obtain ⟨a,e,h⟩:=bnd_ok h
  obtain ⟨b,e2,h⟩:=bnd_ok (ite_ok h).2
  exact (pairsN_len h).trans (by rw [len1];exact cZ _ _ _)
section
variable {d:Nat} {σ0 σ τ:aN} {Q:V→aN→Prop} {X:Ex→aN→Prop} {i j:Nat} {data r:List Nat}
theorem c_ConfChange_row {c:Ch} (hc:ChAt σ i c) (h:Q c.row σ):wpCall (d+1) .ConfChange_row [.obj i] σ Q X:=by
 obtain ⟨l,h0,h1⟩:=hc
 unfold prsO at h1
 refine ent [some (.obj i)] rfl rfl ?_
 refine sR (Ev.run (fJ (aD (a9 (aB rfl) h0 rfl) (aD (oW (a9 (aB rfl) h0 rfl) h1) (aD (a9 (aB rfl) h0 rfl) aG))) rfl) ?_)
 exact h
theorem j8 {c:Ch} {l0:Nat} (hl:σ[l0]? =some (prsO c.cs)) (hn:c.cs.length≤1000) (h:∀σ',σ <+:σ'→ChAt σ' σ.length c→Q .none σ'):wpCall (d+1) .ConfChange_init [.obj σ.length,.int c.tr,.obj l0,.bytes c.cx] (σ++[.inst .ConfChange []]) Q X:=by
 refine ent [some (.obj σ.length),some (.int c.tr),some (.obj l0),some (.bytes c.cx)] rfl rfl ?_
 refine sAt (Ev.run (aB rfl) (jR (aB rfl) aQ rfl dN (sAt (eC rfl (Ev.run (aB rfl) ?_)))))
 refine pCo (f:=jQ) (xs:=c.cs) jQ (fun _ s=>s=σ++[nK .transition (.int c.tr) (.inst .ConfChange [])]) rfl (fun a s e=>e▸cL hl) (aA hn (by decide)) (fun s e=>?_) fun a x c' e R hR s j=>⟨_,rfl,?_⟩
 ·subst e
  rw [new2,len1]
  refine jR (aB rfl) bB rfl dT (sAt (Ev.run (aB rfl) (jR (aB rfl) bB rfl dT (s0 ?_))))
  exact h _ (aW _ _) ⟨σ.length+1,bB,jF⟩
 ·subst j
  refine Ev.run (fJ (aD (aB rfl) (aD (aB rfl) aG)) rfl) ?_
  exact hR _ rfl
theorem c_encode_change {c:Ch} (hk:c.Ok) (hc:ChAt σ i c) (h:∀σ',σ <+:σ'→Q (.bytes c.enc) σ'):wpCall (d+4) .encode_change [.obj i] σ Q X:=by
 obtain ⟨l,h0,h1⟩:=hc
 have h1':=h1
 unfold prsO at h1'
 have hl:(c.cs.map jQ).length=c.cs.length:=aK _
 have n10:c.cs.length≤18446744073709551615:=aA hk.len (by decide)
 refine ent [some (.obj i),none,none,none] rfl rfl ?_
 refine sA (eQ aG ?_)
 refine fE fun s1 S1=>?_
 refine nq (sE (aZ (aB rfl) (Sk.sink S1) rfl (aD (a9 (aB rfl) (Sk.old S1 h0) rfl) aG) ?_))
 refine bP S1 hk.tr rfl fun s2 S2=>?_
 refine sE (aZ (aB rfl) (Sk.sink S2) rfl (aD (ev_lo (a9 (aB rfl) (Sk.old S2 h0) rfl) (Sk.old S2 h1')) aG) ?_)
 rw [hl]
 refine bP S2 n10 rfl fun s3 S3=>?_
 refine sF rfl (Ev.run (a9 (aB rfl) (Sk.old S3 h0) rfl) ?_)
 refine pFo (f:=jQ) (xs:=c.cs) (fun a b m σ'=>∃t u,m=[some (.obj i),some (.obj σ.length),t,u]∧Sk σ (groups c.tr++groups c.cs.length++encP a) (20+a.length*20) σ') ⟨none,none,rfl,by unfold encP;rw [iS,hU,bF];exact S3⟩ (fun a b m σ' hI=>?_) (fun m σ' hI=>?_) fun a x b e R hR m σ' hI=>?_
 ·refine hide fun Gx hGx=>?_
  obtain ⟨t,u,_,S⟩:=hI
  refine hGx ?_
  exact S.old h1
 ·obtain ⟨t,u,rfl,S⟩:=hI
  have S':Sk σ (groups c.tr++groups c.cs.length++encP c.cs) 2020 σ':=⟨S.ext,aA S.len (aT (bA 20 hk.len) 20)⟩
  refine sE (aZ (aB rfl) (Sk.sink S') rfl (aD (a9 (aB rfl) (Sk.old S' h0) rfl) aG) ?_)
  refine cX S' hk.cx rfl fun s5 S5=>?_
  refine sR (aZ (aB rfl) (Sk.sink S5) rfl aG ?_)
  exact fS S5 (h _ S5.pre)
 ·obtain ⟨t,u,rfl,S⟩:=hI
  obtain ⟨hx1,hx2⟩:=hk.le x (e▸a8 _ (.head _))
  have la:a.length+1≤100:=aA (by rw [←e,aF,cK];exact aT (bX (cV _)) _) hk.len
  have lb:20+a.length*20+20≤2020:=by
   rw [c4,←jW]
   exact aT (bA 20 la) 20
  refine bd (m':=[some (.obj i),some (.obj σ.length),some (.int x.1),some (.int x.2)]) rfl ?_
  refine sE (aZ (aB rfl) (Sk.sink S) rfl (aD (aB rfl) aG) ?_)
  refine bP S hx1 (dX (aA (aT (by decide) _) (aA lb (by decide)))) fun s5 S5=>?_
  refine sE (aZ (aB rfl) (Sk.sink S5) rfl (aD (aB rfl) aG) ?_)
  refine bP S5 hx2 (dX (aA lb (by decide))) fun s6 S6=>?_
  refine s0 ?_
  refine hR _ _ ⟨_,_,rfl,?_⟩
  unfold encP
  rw [mG,←aE,len1,jW,←c4]
  unfold encP1
  rw [←aE]
  exact S6
theorem isE_ne {b:Bool} {l:List Nat} (h:¬l.isEmpty=true):(!l.isEmpty)=true:=by cases l <;> first | rfl | exact absurd rfl h
theorem c_decode_change (hz:data.length≤lim) (hb:∀x∈data,x < 256) (hk:eU (dCh data) (fun c=>c.cs.length≤1000) (fun _=>True)) (h:eU (dCh data) (fun c=>∀σ' k,σ <+:σ'→ChAt σ' k c→Q (.obj k) σ') (fun x=>∀σ',σ <+:σ'→X x σ')):wpCall (d+6) .decode_change [.bytes data] σ Q X:=by
 refine ent [some (.bytes data),none,none,none,none,none,none] rfl rfl ?_
 by_cases q:data.isEmpty=true
 ·have h:=h.t q
  have q':(!data.isEmpty)=false:=congrArg Bool.not q
  refine mU (t_nt (t_lyT rfl q')) (sR (e_newc (dW (Ev.run (iX rfl) (dW (eA aG rfl (iB.run (aD ev_y aG) ?_)))))))
  exact j8 (c:=⟨0,[],[]⟩) (l0:=σ.length) aQ (by decide) fun σ' p e=>nq (h _ _ ((aW _ _).trans p) e)
 ·have h:=h.e q
  have hk:=hk.e q
  have q':=isE_ne (b:=true) q
  refine iV (t_nf (t_lyT rfl q')) (sA (eQ (aD (aB rfl) aG) ?_))
  refine k_init ?_
  refine nq (sA (aZ (aB rfl) aQ rfl aG ?_))
  refine dP fI h er0 fun tr r1 htr h s1 e=>?_
  have hk:=hk.k e
  clear e
  by_cases w:2 < tr
  ·have w2:=oE htr rfl
   refine mU (dH (aB rfl) (iX rfl) (eS (decide_eq_true (bH.mpr w)))) (sX1 (ev_f (ef_s (lX rfl (aB rfl) w2 ef_n))) ?_)
   exact h.t w _ (aW _ _)
  ·have h:=h.e w
   have hk:=hk.e w
   refine iV (dH (aB rfl) (iX rfl) (eS (decide_eq_false (nlt w)))) (sA (eA aG rfl (sFr (aP (aD (aB rfl) aG) ?_))))
   rw [new2]
   refine r_count hz s1 h er2 fun n r2 hv h s2 e=>?_
   have hk:=hk.k e
   clear e
   have hvl:=aA hv (aA s2.length_le hz)
   refine pRg hvl (fun j m σ'=>∃(acc:List PN) (r':List Nat) (t o:Option V),m=[some (.bytes data),some (.obj σ.length),some (.int tr),some (.obj (σ++[cur data r1]).length),t,o,none]∧σ'=σ++[cur data r',prsO acc]∧r' <:+data∧acc.length=j∧jI (n - j) acc r'=jI n [] r2)
    ⟨[],r2,none,none,rfl,rfl,s2,rfl,rfl⟩ (fun m σ' hI=>?_) fun j hj R hR m σ' hI=>?_
   ·refine hide fun Gx hGx=>?_
    obtain ⟨acc,r',t,o,rfl,rfl,s3,_,hp⟩:=hI
    refine hGx ?_
    rw [gK] at hp
    have h:=h.k hp.symm
    have hk:=hk.k hp.symm
    refine sA (aZ (aB rfl) bB rfl aG ?_)
    refine fG hz s3 h er0 fun cx r4 h s4 e=>?_
    have hk:=hk.k e
    clear e
    refine sE (aZ (aB rfl) bB rfl aG ?_)
    refine k_done hz s4 (h.bnd er0 fun _ e h=>?_)
    have hk:=hk.k e
    refine sR (eQ (aD (aB rfl) (aD (aB rfl) (aD (aB rfl) aG))) ?_)
    exact j8 (c:=⟨tr,acc,cx⟩) (l0:=(σ++[cur data r1]).length) get_lst0 hk fun σ' p e=>nq (h _ _ ((aW _ _).trans p) e)
   ·obtain ⟨acc,r',t,o,rfl,rfl,s3,hal,hp⟩:=hI
    have ej:n - j=(n - (j+1))+1:=(Nat.succ_pred_eq_of_pos (Nat.sub_pos_of_lt hj)).symm
    rw [ej] at hp
    have h:eU (bnd (jI n [] r2) _) _ _:=h
    have h1:eU (jI n [] r2) (fun _=>True) (fun x=>∀σ',σ <+:σ'→X x σ'):=h.bnd (fun _ _ b=>b) fun _ _ _=>trivial
    rw [←hp] at h1
    refine bd rfl ?_
    refine sA (aZ (aB rfl) bB rfl aG ?_)
    refine dP s3 h1 er0 fun kd r4 hkd h1 s4 e1=>?_
    by_cases w3:3 < kd
    ·have w5:=oE hkd rfl
     refine mU (dH (aB rfl) (iX rfl) (eS (decide_eq_true (bH.mpr w3)))) (sX1 (ev_f (ef_s (lX rfl (aB rfl) w5 ef_n))) ?_)
     exact h1.t w3 _ (aW _ _)
    ·have h1:=h1.e w3
     have hlen:(acc.map jQ).length < lim:=by rw [aK,hal];exact aJ hj hvl
     refine iV (dH (aB rfl) (iX rfl) (eS (decide_eq_false (nlt w3)))) (sE (e_appc (xs:=acc.map jQ) (aB rfl) get_lst0 ?_))
     refine lR (dW (Ev.run (aB rfl) (dW (aZ (aB rfl) bB rfl aG ?_))))
     refine dP s4 h1 er0 fun nd r5 _ _ s5 e2=>?_
     refine iB.run aG (p_tu rfl (p_app get_lst0 hlen set_lst0 (s0 ?_)))
     have ea:acc.map jQ++[.tup [.int kd,.int nd]]=(acc++[(kd,nd)]).map jQ:=by rw [bI];rfl
     rw [ea]
     refine hR _ _ ⟨acc++[(kd,nd)],r5,some (.int j),some (.int kd),rfl,rfl,s5,by rw [len1,hal],?_⟩
     rw [←hp]
     show _=bnd (pv r') _
     rw [e1]
     show _=if 3 < kd then _ else _
     rw [if_neg w3]
     rw [e2];rfl
end
end
section
noncomputable def Fr (ja:Nat) (σ σ':aN):Prop:=∀i o,ja≠i→σ[i]? =some o→σ'[i]? =some o
theorem Fr.trans {ja:Nat} {a b c:aN} (h:Fr ja a b) (k:Fr ja b c):Fr ja a c:=fun i o n e=>k i o n (h i o n e)
theorem Fr.of_pre {ja:Nat} {a b:aN} (h:a <+:b):Fr ja a b:=fun i o _ e=>bZ h e
theorem Fr.set {ja:Nat} {a:aN} {o:AO}:Fr ja a (a.set ja o):=fun i _ n e=>cT e n
structure Dr (t:List Int) (jt ja:Nat) (σ:aN):Prop where
 ht:σ[jt]? =some (.list (t.map V.int))
 ha:∃k:Nat,σ[ja]? =some (.list [.int k])
 hne:ja≠jt
 h0:0 < t.length
 hl:t.length≤1000
theorem Dr.pre {t:List Int} {jt ja:Nat} {σ σ':aN} (D:Dr t jt ja σ) (p:σ <+:σ'):Dr t jt ja σ':=⟨bZ p D.ht,D.ha.imp fun _ e=>bZ p e,D.hne,D.h0,D.hl⟩
theorem Dr.set {t:List Int} {jt ja:Nat} {σ:aN} (D:Dr t jt ja σ) (k:Nat):Dr t jt ja (σ.set ja (.list [.int k])):=⟨cT D.ht D.hne,D.ha.elim fun _ e=>⟨k,nU e⟩,D.hne,D.h0,D.hl⟩
theorem Dr.lt {t:List Int} {jt ja:Nat} {σ:aN} (D:Dr t jt ja σ):ja < σ.length:=D.ha.elim fun _ e=>(aX.mp e).1
structure Oc (n:Nat) (b:List Nat):Prop where
 l:b.length≤n
 b:∀x∈b,x < 256
noncomputable def OcO (n:Nat) (o:Option (List Nat)):Prop:=∀b,o=some b→Oc n b
theorem OcO.le {n m:Nat} {o:Option (List Nat)} (h:OcO n o) (q:n≤m):lK m o:=fun b e=>aA (h b e).l q
theorem emod_nat (a:Int) {m:Nat} (h:0 < m):∃n:Nat,n < m∧a % (m:Int)=n:=by
 have h0:(0:Int) < m:=bH.mpr h
 obtain ⟨n,e⟩:=Int.eq_ofNat_of_zero_le (Int.emod_nonneg a (Int.ne_of_gt h0))
 exact ⟨n,bH.mp (e▸Int.emod_lt_of_pos a h0),e⟩
theorem get_int {t:List Int} (k:Nat) (h:0 < t.length):∃a,(t.map V.int)[k % (t.map V.int).length]? =some (.int a):=by
 rw [aK,gL,c5 (fX k h)]
 exact ⟨_,rfl⟩
theorem edge:∀{y:Nat},y < 9→∃n:Nat,n≤18446744073709551615∧nth [V.int 0,.int 1,.int 127,.int 128,.int 16383,.int 16384,.int 4294967295,.int 9223372036854775808,.int 18446744073709551615] (y:Int)=some (.int n)
 | 0,_=>⟨0,LE rfl,rfl⟩ | 1,_=>⟨1,LE rfl,rfl⟩ | 2,_=>⟨127,LE rfl,rfl⟩ | 3,_=>⟨128,LE rfl,rfl⟩ | 4,_=>⟨16383,LE rfl,rfl⟩ | 5,_=>⟨16384,LE rfl,rfl⟩ | 6,_=>⟨4294967295,LE rfl,rfl⟩ | 7,_=>⟨9223372036854775808,LE rfl,rfl⟩ | 8,_=>⟨18446744073709551615,LE rfl,rfl⟩
 | _+9,h=>absurd h (bK.mpr (eK _ _))
theorem grp_range:∀{f n:Nat},n≤f→grp f n=(List.range (grp f n).length).map fun i=>n / 128 ^ i % 128+if i+1 < (grp f n).length then 128 else 0
 | 0,n,h=>by rw [Nat.le_zero.mp h];rfl
 | f+1,n,h=>by
  by_cases q:n < 128
  ·rw [grp_lt q]
   show _=[n / 128 ^ 0 % 128+0]
   rw [Nat.pow_zero,Nat.div_one,hK q,Nat.add_zero]
  ·have ih:=grp_range (f:=f) (n:=n / 128) (bE (aJ (lt128 q) h))
   have h0:0 < (grp f (n / 128)).length:=by
    induction f with
    | zero=>exact lD
    | succ f=>
     by_cases w:n / 128 < 128
     ·rw [grp_lt w];exact lD
     ·rw [grp_ge w];exact fM _
   rw [grp_ge q,cK,List.range_succ_eq_map,kI,fN,if_pos (Nat.succ_lt_succ h0),Nat.pow_zero,Nat.div_one]
   refine congrArg _ (ih.trans (List.map_congr_left fun i _=>?_))
   show _=n / 128 ^ (i+1) % 128+if i+1+1 < (grp f (n / 128)).length+1 then 128 else 0
   rw [Nat.pow_succ,eX (128 ^ i),←iR]
   simp only [Nat.add_lt_add_iff_right]
section
variable {d:Nat} {σ0 σ τ:aN} {Q:V→aN→Prop} {X:Ex→aN→Prop} {jt ja:Nat} {t:List Int}
theorem hH {m:Nat} (D:Dr t jt ja σ) (hm:0 < m) (h:∀n,n < m→∀σ',Fr ja σ σ'→Dr t jt ja σ'→Q (.int (n:Nat)) σ'):wpCall (d+1) .law_take [.obj jt,.obj ja,.int (m:Nat)] σ Q X:=by
 obtain ⟨k,ha⟩:=D.ha
 refine ent [some (.obj jt),some (.obj ja),some (.int (m:Nat)),none] rfl rfl ?_
 obtain ⟨a,hg⟩:=get_int k D.h0
 have D':=D.set (k+1)
 have l0:0 < (t.map V.int).length:=by rw [aK];exact D.h0
 have l1:(t.map V.int).length < 2 ^ 100:=by rw [aK];exact aS D.hl (by decide)
 refine sA ((iL (aB rfl) ha aH rfl).run (sIx (j:=0) (b8 (aB rfl) aH cE) (aB rfl) aH ha lD rfl ?_))
 obtain ⟨n,hn,e⟩:=emod_nat (a+((k / (t.map V.int).length:Nat):Int)*7) hm
 refine sR ((Ev.cast (b8 (b8 (iL (aB rfl) D'.ht (b8 (aB rfl) (ev_lo (aB rfl) D'.ht) (dU l0)) (nthN hg)) (b8 (b8 (aB rfl) (ev_lo (aB rfl) D'.ht) (kA l0 l1)) aH (b_mul (.inr (by decide)))) b_add) (aB rfl) (b_mod (bH.mpr hm))) (congrArg V.int e)).run ?_)
 exact h n hn _ .set D'
theorem nY (D:Dr t jt ja σ) (h:∀n,n≤18446744073709551615→∀σ',Fr ja σ σ'→Dr t jt ja σ'→Q (.int (n:Nat)) σ'):wpCall (d+2) .law_field [.obj jt,.obj ja] σ Q X:=by
 refine ent [some (.obj jt),some (.obj ja),none,none] rfl rfl ?_
 refine sA (aP (aD (aB rfl) (aD (aB rfl) (aD aH aG))) ?_)
 refine hH (m:=4096) D (by decide) fun x hx s f D=>?_
 refine sA (Ev.run (fJ (aD aH (aD aH (aD aH (aD aH (aD aH (aD aH (aD aH (aD aH (aD aH aG))))))))) rfl) ?_)
 by_cases q:x % 16 < 9
 ·obtain ⟨n,hn,e⟩:=edge q
  refine mU (dH (b8 (aB rfl) aH (dU (q:=16) (by decide))) aH (d0 (decide_eq_true (bH.mpr q)))) (sR ((cQ (aB rfl) (b8 (aB rfl) aH (dU (q:=16) (by decide))) e).run ?_))
  exact h n hn s f D
 ·refine iV (dH (b8 (aB rfl) aH (dU (q:=16) (by decide))) aH (d0 (decide_eq_false (nlt q)))) ?_
  refine sR (Ev.run (b8 (aB rfl) aH (kA (by decide) (by decide))) ?_)
  exact h _ (aA (Nat.div_le_self _ _) (aA (b6 hx) (by decide))) s f D
theorem d_octs {most:Nat} (D:Dr t jt ja σ) (hm:most≤100) (h:∀b:List Nat,Oc most b→∀σ',Fr ja σ σ'→Dr t jt ja σ'→Q (.bytes b) σ'):wpCall (d+2) .law_octs [.obj jt,.obj ja,.int (most:Nat)] σ Q X:=by
 refine ent [some (.obj jt),some (.obj ja),some (.int (most:Nat)),none] rfl rfl ?_
 refine sA (aP (aD (aB rfl) (aD (aB rfl) (aD aH aG))) ?_)
 refine hH (m:=16777216) D (by decide) fun x hx s f D=>?_
 have lr:x % (most+1)≤most:=bE (fX _ (fM _))
 have hp:0 < most+1:=fM _
 refine sR (fH (eCr (Ev.run (b8 (aB rfl) (b8 (aB rfl) aH cE) (dU hp)) ?_)))
 refine pCr (aA lr (aA hm (LE rfl))) (fun i=>cU ((x / 31+i*(1+x / 4099 % 9)) % 256)) (fun _ s'=>s'=s) rfl (fun s' e=>?_) fun j hj R hR s' e=>⟨_,rfl,?_⟩
 ·subst e
  refine p_bysN (bs:=(List.range (x % (most+1))).map fun i=>(x / 31+i*(1+x / 4099 % 9)) % 256) (by rw [fN];exact aQ) (fun y hy=>?_) ?_
  ·obtain ⟨i,_,rfl⟩:=dE.mp hy
   exact m256
  ·refine h _ ⟨by rw [aK,eH];exact lr,fun y hy=>?_⟩ _ (f.trans (.of_pre (aW _ _))) (D.pre (aW _ _))
   obtain ⟨i,_,rfl⟩:=dE.mp hy
   exact m256
 ·subst e
  have jb:j < 2 ^ 64:=dD (aJ hj (aA lr hm)) (by decide)
  refine Ev.run (b8 (b8 (b8 (aB rfl) aH (kA (by decide) (by decide))) (b8 (aB rfl) (b8 aH (b8 (b8 (aB rfl) aH (kA (by decide) (by decide))) aH (dU (by decide))) cE) (b_mulN jb)) cE) aH (dU (by decide))) ?_
  exact hR _ rfl
theorem d_maybe {most:Nat} (D:Dr t jt ja σ) (hm:most≤100) (h:∀o,OcO most o→∀σ',Fr ja σ σ'→Dr t jt ja σ'→Q (fV o) σ'):wpCall (d+3) .law_maybe [.obj jt,.obj ja,.int (most:Nat)] σ Q X:=by
 refine ent [some (.obj jt),some (.obj ja),some (.int (most:Nat))] rfl rfl ?_
 refine sI (eP (aP (aD (aB rfl) (aD (aB rfl) (aD aH aG))) ?_))
 refine hH (m:=2) D (by decide) fun n hn s1 f1 D1=>?_
 by_cases q:n=0
 ·subst q
  refine Ev.run aH (eI.rT (dR (decide_eq_true rfl)) (pIt (sR (Ev.run eW ?_))))
  exact h none (fun _ e=>nomatch e) s1 f1 D1
 ·refine Ev.run aH (eI.rF (dR (decide_eq_false (neq q))) (pI0 (sR (aP (aD (aB rfl) (aD (aB rfl) (aD (aB rfl) aG))) ?_))))
  exact d_octs D1 hm fun b hb s2 f2 D2=>h (some b) (fun b' e=>Option.some.inj e▸hb) s2 (f1.trans f2) D2
theorem jT {n:Nat} (hn:n≤18446744073709551615) (h:∀τ,Q (.bytes (groups n)) (σ++τ)):wpCall (d+1) .law_var [.int n] σ Q X:=by
 refine ent [some (.int n),none,none] rfl rfl ?_
 refine sA (Ev.run aH (sA (Ev.run (b8 (aB rfl) aH (kA (by decide) (by decide))) ?_)))
 refine sW (I:=fun k m σ'=>∃c,m=[some (.int n),some (.int (c:Nat)),some (.int (k:Nat))]∧σ'=σ∧c+(if k=0 then 0 else (groups k).length)=(groups n).length) (n / 128) ⟨1,rfl,rfl,?_⟩ fun k R hR m σ' hI=>?_
 ·by_cases q:n < 128
  ·rw [gD q,if_pos (Nat.div_eq_of_lt q)];rfl
  ·rw [jS q,if_neg (lU (Nat.div_pos (bU q) (by decide))),eY];rfl
 obtain ⟨c,rfl,rfl,hc⟩:=hI
 by_cases hk:k=0
 ·subst hk
  have hc:c+0=_:=hc
  rw [Nat.add_zero] at hc
  subst hc
  have n0:¬0 < 0:=fQ 0
  refine nI.run (b:=false) (dH (aB rfl) aH (eS (decide_eq_false (nlt n0)))) (wh_f ?_)
  have hg:=oP hn
  have hr:groups n=_:=grp_range (bD n)
  have hb:∀i,n / 128 ^ i % 128+(if i+1 < (groups n).length then 128 else 0) < 256:=fun i=>by
   have:n / 128 ^ i % 128 < 128:=fX _ (by decide)
   by_cases q:i+1 < (groups n).length
   ·rw [if_pos q];exact Nat.add_lt_add_right this 128
   ·rw [if_neg q];exact dD this (by decide)
  refine sR (fH (eCr (Ev.run (aB rfl) ?_)))
  refine pCr (aA hg (LE rfl)) (fun i=>cU (n / 128 ^ i % 128+if i+1 < (groups n).length then 128 else 0)) (fun _ s'=>s'=σ') rfl (fun s' e=>?_) fun j hj R hR s' e=>⟨[some (.int (j:Nat)),some (.int (groups n).length),some (.int (n:Nat))],rfl,?_⟩
  ·subst e
   refine p_bysN (bs:=(List.range (groups n).length).map fun i=>n / 128 ^ i % 128+if i+1 < (groups n).length then 128 else 0) (by rw [fN];exact aQ) (fun y hy=>?_) ?_
   ·obtain ⟨i,_,rfl⟩:=dE.mp hy
    exact hb i
   ·unfold groups
    rw [←grp_range (bD n)]
    exact h _
  ·subst e
   have j9:j≤9:=bE (aJ hj hg)
   have p0:0 < 128 ^ j:=Nat.pow_pos (by decide)
   have p1:128 ^ j < 2 ^ 100:=aS (nM (by decide) j9) (by decide)
   have e1:Ev [some (.int (j:Nat)),some (.int (groups n).length),some (.int (n:Nat))] s' (.bin .mod (.bin .fdiv (.loc 2) (.bin .pow (.cI 128) (.loc 0))) (.cI 128)) (.int (n / 128 ^ j % 128:Nat)):=b8 (b8 (aB rfl) (b8 aH (aB rfl) (b_powN (p:=128) (aA j9 (by decide)) (by decide))) (kA p0 p1)) aH (dU (q:=128) (by decide))
   have hR:=hR _ rfl
   by_cases q:j+1 < (groups n).length
   ·rw [if_pos q] at hR
    exact (b8 e1 (ev_ift (dH (b8 (aB rfl) aH cE) (aB rfl) (d0 (decide_eq_true (bH.mpr q)))) aH) (cE (q:=128))).run hR
   ·rw [if_neg q] at hR
    exact (b8 e1 (ev_iff (dH (b8 (aB rfl) aH cE) (aB rfl) (d0 (decide_eq_false (nlt q)))) aH) (cE (q:=0))).run hR
 ·rw [if_neg hk] at hc
  have hp:=Nat.pos_of_ne_zero hk
  have k0:k / 128 < k:=Nat.div_lt_self hp (by decide)
  refine nI.run (b:=true) (dH (aB rfl) aH (eS (decide_eq_true (bH.mpr hp)))) (wh_t ?_)
  refine sA ((b8 (aB rfl) aH (kA (q:=128) (by decide) (by decide))).run (sA ((b8 (aB rfl) aH cE).run (s0 (hR (k / 128) _ _ k0 ⟨c+1,rfl,rfl,?_⟩)))))
  by_cases q:k < 128
  ·rw [gD q] at hc;rw [if_pos (Nat.div_eq_of_lt q)];exact hc
  ·rw [jS q] at hc
   rw [if_neg (lU (Nat.div_pos (bU q) (by decide))),c4,eY 1]
   exact hc
theorem c_law_len {b:List Nat} {L:Nat} (hb:b.length≤L) (hL:Nat.ble L 1000000=true) (h:∀τ,Q (.bytes (lenB b)) (σ++τ)):wpCall (d+2) .law_len [.bytes b] σ Q X:=by
 refine ent [some (.bytes b)] rfl rfl ?_
 have l1:=aA hb (LE hL)
 have l2:(groups b.length).length+b.length≤lim:=aA (fY (oP (aA l1 (by decide))) l1) (LE rfl)
 refine sR (cR (aP (aD (gM (aB rfl)) aG) ?_))
 refine jT (aA l1 (by decide)) fun τ=>?_
 refine Ev.run (aB rfl) (gF.run (nA l2) ?_)
 exact h τ
theorem c_law_opt {o:Option (List Nat)} (hb:lK 1000 o) (h:∀τ,Q (.bytes (jL o)) (σ++τ)):wpCall (d+3) .law_opt [fV o] σ Q X:=by
 refine ent [some (fV o)] rfl rfl ?_
 induction o with
 | none=>
  unfold fV
  refine mU (dH (aB rfl) eW c_isN) (sR (fH (eA (aD aH aG) rfl ?_)))
  exact p_by1 (n:=0) aQ (by decide) (h _)
 | some b=>
  unfold fV
  refine iV (dH (aB rfl) eW c_isB) (sR (cR (fH (eA (aD aH aG) rfl ?_))))
  refine p_by1 (n:=1) aQ (by decide) ?_
  refine aP (aD (aB rfl) aG) ?_
  refine c_law_len (hb b rfl) rfl fun τ=>(nA (jK (aT (gB (hb b rfl) rfl) 1) rfl)).run ?_
  rw [aE]
  exact h _
theorem c_law_cuts {size x:Nat} (hs:0 < size) (h:Q (.obj σ.length) (σ++[.list ([x % size,size - 1].map cU)])):wpCall (d+1) .law_cuts [.int size,.int x] σ Q X:=by
 refine ent [some (.int size),some (.int x)] rfl rfl ?_
 have e:gF .sub (.int size) (.int 1) (.int ((size - 1:Nat):Int)):=by rw [Int.natCast_sub hs];exact b_sub
 refine sR (eA (aD (b8 (aB rfl) (aB rfl) (dU hs)) (aD (b8 (aB rfl) aH e) aG)) rfl ?_)
 exact h
end
end
section
noncomputable def catL {α:Type} (g:α→List Nat) (xs:List α):List Nat:=xs.foldl (fun b x=>b++g x) []
theorem catL_snoc {α:Type} {g:α→List Nat} {a:List α} {x:α}:catL g (a++[x])=catL g a++g x:=by unfold catL;rw [List.foldl_append];rfl
theorem catL_eq {α:Type} {g:α→List Nat} (xs:List α):catL g xs=(xs.map g).flatten:=by
 have:∀(xs:List α) b,xs.foldl (fun b x=>b++g x) b=b++(xs.map g).flatten:=by
  intro xs
  induction xs with
  | nil=>exact fun b=>(bF b).symm
  | cons a r ih=>exact fun b=>(ih _).trans (aE _ _ _)
 exact this xs []
theorem catL_len {α:Type} {g:α→List Nat} {N:Nat} {xs:List α} (h:∀x∈xs,(g x).length≤N):(catL g xs).length≤xs.length*N:=by rw [catL_eq];exact j2 h
noncomputable def Ms.hd (m:Ms):List Nat:=[m.k,m.to,m.fr,m.tm,m.lt,m.ix,m.cm,m.hn]
noncomputable def rowM (hd:List Nat) (fv:V) (es:List eN) (sn:Option Sn) (cx:List Nat):V:=.tup [.tup (hd.map cU),fv,.tup (es.map eN.row),nQ sn,.bytes cx]
noncomputable def Ms.lrow (m:Ms):V:=rowM m.hd (.bool m.rj) m.es m.sn m.cx
noncomputable def encT (b:List Nat):Option Sn→List Nat
 | none=>b++[0]
 | some s=>b++[1]++lenB s.enc
noncomputable def lenE (e:eN):List Nat:=lenB e.enc
noncomputable def lQ (hd:List Nat) (fl:Nat) (es:List eN) (sn:Option Sn) (cx:List Nat):List Nat:=encT (catL groups hd++[fl]++groups es.length++(es.map lenE).flatten) sn++lenB cx
noncomputable def Ms.enc (m:Ms):List Nat:=lQ m.hd m.rj.toNat m.es m.sn m.cx
noncomputable def encC (v l o n:List Nat) (fl:Nat):List Nat:=eM v++eM l++eM o++eM n++[fl]
noncomputable def rowC (v l o n:List Nat) (fv:V):V:=.tup [.tup (v.map cU),.tup (l.map cU),.tup (o.map cU),.tup (n.map cU),fv]
theorem one_lim (v:V):[v].length≤lim:=LE rfl
noncomputable def idv (i:Nat):Nat:=[1,2,130,70000].getD i 0
noncomputable def subN (x j:Nat):List Nat:=((List.range j).filter fun i=>decide (x / 2 ^ i % 2=1)).map idv
noncomputable def jV (ids:List Nat):Prop:=∃x,x < 16∧ids=subN x 4
theorem sub16:∀x,x < 16→(subN x 4).length≤4∧(∀y∈subN x 4,y≤18446744073709551615)∧ddp [] (srt (natI (subN x 4)))=natI (subN x 4)∧ddp [] (srt (natI ((subN x 4).reverse++subN x 4)))=natI (subN x 4):=by decide+kernel
theorem jV.len {ids:List Nat} (h:jV ids):ids.length≤4:=by
 obtain ⟨x,hx,rfl⟩:=h;exact (sub16 x hx).1
theorem jV.ok {ids:List Nat} (h:jV ids):IdsOk ids:=by
 obtain ⟨x,hx,rfl⟩:=h
 obtain ⟨a,b,c,_⟩:=sub16 x hx
 exact ⟨aA a (by decide),b,c⟩
theorem jV.rises {ids:List Nat} (h:jV ids):Rises (ids.reverse++ids) ids:=by
 obtain ⟨x,hx,rfl⟩:=h
 obtain ⟨a,_,_,c⟩:=sub16 x hx
 exact ⟨by rw [aF,List.length_reverse];exact aA (fY a a) (by decide),c⟩
theorem subN_s (x j:Nat):subN x (j+1)=subN x j++if x / 2 ^ j % 2=1 then [idv j] else []:=by
 unfold subN
 rw [List.range_succ,List.filter_append,bI]
 by_cases q:x / 2 ^ j % 2=1
 ·simp [List.filter,q]
 ·simp [List.filter,q]
section
variable {d:Nat} {σ0 σ τ:aN} {Q:V→aN→Prop} {X:Ex→aN→Prop} {i j N:Nat} {b:List Nat}
theorem lT {e:eN} (hi:σ[i]? =some e.o) (h:Q e.row σ):wpCall (d+1) .law_entry_row [.obj i] σ Q X:=by
 refine ent [some (.obj i)] rfl rfl ?_
 refine sR (Ev.run (fJ (aD (a9 (aB rfl) hi rfl) (aD (a9 (aB rfl) hi rfl) (aD (a9 (aB rfl) hi rfl) (aD (a9 (aB rfl) hi rfl) aG)))) rfl) ?_)
 exact h
theorem c_law_conf_row {c:Cf} (hc:kD σ i c) (h:Q c.row σ):wpCall (d+1) .law_conf_row [.obj i] σ Q X:=by
 obtain ⟨i1,i2,i3,i4,h0,h1,h2,h3,h4⟩:=hc
 refine ent [some (.obj i)] rfl rfl ?_
 refine sR (Ev.run (fJ (aD (oW (a9 (aB rfl) h0 rfl) h1) (aD (oW (a9 (aB rfl) h0 rfl) h2) (aD (oW (a9 (aB rfl) h0 rfl) h3) (aD (oW (a9 (aB rfl) h0 rfl) h4) (aD (a9 (aB rfl) h0 rfl) aG))))) rfl) ?_)
 exact h
theorem c_law_snap_row {s:Sn} (hs:jM σ i s) (h:Q s.row σ):wpCall (d+2) .law_snap_row [.obj i] σ Q X:=by
 obtain ⟨kc,h0,h1⟩:=hs
 refine ent [some (.obj i)] rfl rfl ?_
 refine sR (lR (dW (Ev.run (a9 (aB rfl) h0 rfl) (dW (Ev.run (a9 (aB rfl) h0 rfl) (dW (aP (aD (a9 (aB rfl) h0 rfl) aG) ?_)))))))
 refine c_law_conf_row h1 ?_
 refine iB.run (aD (a9 (aB rfl) h0 rfl) aG) (p_tu rfl ?_)
 exact h
theorem j4 {m:Ms} (hn:m.es.length≤100) (hm:nE σ i m) (h:∀σ',σ <+:σ'→Q m.lrow σ'):wpCall (d+3) .law_message_row [.obj i] σ Q X:=by
 obtain ⟨le,ps,sv,h0,h1,h2,he,h3⟩:=hm
 refine ent [some (.obj i),none,none] rfl rfl ?_
 have hl:ps.length≤lim:=by
  rw [←he,aK] at hn
  exact aA hn (by decide)
 have fin:wpSs (wpCall (d+2)) (.cons (.sA 2 (.tup (.cons (.attr (.loc 0) .kind) (.cons (.attr (.loc 0) .to) (.cons (.attr (.loc 0) .frm) (.cons (.attr (.loc 0) .term) (.cons (.attr (.loc 0) .log_term) (.cons (.attr (.loc 0) .index) (.cons (.attr (.loc 0) .commit) (.cons (.attr (.loc 0) .reject_hint) .nil)))))))))) (.cons (.sR (.tup (.cons (.loc 2) (.cons (.attr (.loc 0) .reject) (.cons (.blt .tuple (.cons (.comp (.call .law_entry_row (.cons (.loc 0) .nil)) 0 (.attr (.loc 0) .entries) .nil []) .nil)) (.cons (.loc 1) (.cons (.attr (.loc 0) .context) .nil))))))) .nil)) [some (.obj i),some (nQ m.sn),none] σ (mV Q) (exK X):=by
  refine sA (Ev.run (fJ (aD (a9 (aB rfl) h0 rfl) (aD (a9 (aB rfl) h0 rfl) (aD (a9 (aB rfl) h0 rfl) (aD (a9 (aB rfl) h0 rfl) (aD (a9 (aB rfl) h0 rfl) (aD (a9 (aB rfl) h0 rfl) (aD (a9 (aB rfl) h0 rfl) (aD (a9 (aB rfl) h0 rfl) aG)))))))) rfl) (sR (lR (dW (Ev.run (aB rfl) (dW (Ev.run (a9 (aB rfl) h0 rfl) (dW (fH (eC rfl (Ev.run (a9 (aB rfl) h0 rfl) ?_)))))))))))
  refine pCo (f:=obP) (xs:=ps) (fun p=>p.2.row) (fun _ s=>s=σ) rfl (fun a s e=>e▸h1) hl (fun s e=>?_) fun a x c e R hR s j=>⟨_,rfl,?_⟩
  ·subst e
   have h:=h _ (aW s [AO.list (ps.map fun p=>p.2.row)])
   have h0:(s++[AO.list (ps.map fun p=>p.2.row)])[i]? =some (jJ m le sv):=cL h0
   unfold Ms.lrow rowM at h
   rw [←rows_of he] at h
   refine p_tup aQ (iB.run (aD (aB rfl) (aD (a9 (aB rfl) h0 rfl) aG)) (p_tu rfl ?_))
   exact h
  ·subst j
   have hx:=h2 x (e▸a8 _ (.head _))
   refine aP (aD (aB rfl) aG) ?_
   exact lT hx (hR _ rfl)
 generalize hsn:m.sn=sn at h3 fin
 refine sA (Ev.run eW ?_)
 induction h3 with
 | no=>exact iV (dH (a9 (aB rfl) h0 rfl) eW fA) fin
 | so a=>
  refine mU (dH (a9 (aB rfl) h0 rfl) eW c_isnO) ?_
  refine sA (aP (aD (a9 (aB rfl) h0 rfl) aG) ?_)
  exact c_law_snap_row a (s0 fin)
theorem c_law_command_row {m:Cm} (hi:σ[i]? =some m.o) (h:Q (.tup [.int m.k,.int m.c,.int m.n,.bytes m.key,.bytes m.val,fV m.ex]) σ):wpCall (d+1) .law_command_row [.obj i] σ Q X:=by
 refine ent [some (.obj i)] rfl rfl ?_
 refine sR (Ev.run (fJ (aD (a9 (aB rfl) hi rfl) (aD (a9 (aB rfl) hi rfl) (aD (a9 (aB rfl) hi rfl) (aD (a9 (aB rfl) hi rfl) (aD (a9 (aB rfl) hi rfl) (aD (a9 (aB rfl) hi rfl) aG)))))) rfl) ?_)
 exact h
theorem w_var {n:Nat} (hb:b.length≤N) (hN:Nat.ble (N+10) 1048576=true) (hn:n≤18446744073709551615) (p:σ0 <+:σ) (h:∀σ',σ0 <+:σ'→(b++groups n).length≤N+10→Q (.bytes (b++groups n)) σ'):wpCall (d+1) .law_var [.int n] σ (fun y σ=>mQ .add (.bytes b) y σ Q) X:=
 jT hn fun τ=>(nA (aA (fY hb (oP hn)) (LE hN))).run (h _ (p.trans (aW _ _)) (bY hb (oP hn)))
theorem w_len {x:List Nat} {L:Nat} (hb:b.length≤N) (hx:x.length≤L) (hN:Nat.ble (N+(10+L)) 1000000=true) (p:σ0 <+:σ) (h:∀σ',σ0 <+:σ'→(b++lenB x).length≤N+(10+L)→Q (.bytes (b++lenB x)) σ'):wpCall (d+2) .law_len [.bytes x] σ (fun y σ=>mQ .add (.bytes b) y σ Q) X:=by
 have l:=aA (aA (eK L 10) (eK _ N)) (LE hN)
 have lb:=gB hx (dX (aA l (by decide)))
 exact c_law_len hx (dX l) fun τ=>(nA (aA (fY hb lb) (aA (LE hN) (by decide)))).run (h _ (p.trans (aW _ _)) (bY hb lb))
theorem w_opt {o:Option (List Nat)} (hb:b.length≤N) (ho:lK 1000 o) (hN:Nat.ble (N+1011) 1000000=true) (p:σ0 <+:σ) (h:∀σ',σ0 <+:σ'→(b++jL o).length≤N+1011→Q (.bytes (b++jL o)) σ'):wpCall (d+3) .law_opt [fV o] σ (fun y σ=>mQ .add (.bytes b) y σ Q) X:=
 c_law_opt ho fun τ=>(nA (aA (fY hb (pE ho rfl)) (aA (LE hN) (by decide)))).run (h _ (p.trans (aW _ _)) (bY hb (pE ho rfl)))
theorem w_one {W:Wp} {m:Lo} {a:M} {n:Nat} (ha:Ev m σ a (.int n)) (h256:n < 256) (hb:b.length≤N) (hN:Nat.ble (N+1) 1048576=true) (p:σ0 <+:σ) (h:∀σ',σ0 <+:σ'→(b++[n]).length≤N+1→Q (.bytes (b++[n])) σ'):wpE W (.blt .bytes (.cons (.lst (.cons a .nil)) .nil)) m σ (fun y σ=>mQ .add (.bytes b) y σ Q) X:=
 fH (eA (aD ha aG) rfl (p_by1 aQ h256 ((nA (aA (d9 hb 1) (LE hN))).run (h _ (p.trans (aW _ _)) (bY hb (bD 1))))))
theorem gO {e:eN} (hk:e.Ok) (h:∀σ',σ <+:σ'→Q (.bytes e.enc) σ'):wpCall (d+3) .law_entry_octets [e.row] σ Q X:=by
 refine ent [some e.row] rfl rfl ?_
 refine sR (cR (cR (cR (aP (aD (cQ (aB rfl) aH rfl) aG) ?_))))
 refine jT hk.t fun τ1=>?_
 refine aP (aD (cQ (aB rfl) aH rfl) aG) ?_
 refine w_var (oP hk.t) rfl hk.i (aW σ τ1) fun s2 p2 l2=>?_
 refine aP (aD (cQ (aB rfl) aH rfl) aG) ?_
 refine w_var l2 rfl hk.k p2 fun s3 p3 l3=>?_
 refine aP (aD (cQ (aB rfl) aH rfl) aG) ?_
 exact w_len l3 hk.d rfl p3 fun s4 p4 _=>h _ p4
theorem iA {v l o n:List Nat} {fv:V} {fl:Nat} (hf:gF .add fv (.int 0) (.int fl)) (h256:fl < 256) (hle:∀ids∈[v,l,o,n],ids.length≤8∧∀x∈ids,x≤18446744073709551615) (h:∀σ',σ <+:σ'→Q (.bytes (encC v l o n fl)) σ'):
  wpCall (d+3) .law_conf_octets [rowC v l o n fv] σ Q X:=by
 refine ent [some (rowC v l o n fv),none,none,none] rfl rfl ?_
 have ln:∀{ids:List Nat},ids.length≤8→ids.length≤18446744073709551615:=fun h=>aA h (by decide)
 have el:∀ids∈[v,l,o,n],(eM ids).length≤90:=fun ids hi=>aA (bY (oP (ln (hle ids hi).1)) (j2 fun x hx=>oP ((hle ids hi).2 x hx))) (aT (bA 10 (hle ids hi).1) 10)
 have sub:∀{a c:List (List Nat)} {x:List Nat},a++x::c=[v,l,o,n]→(∀y∈a,y∈[v,l,o,n])∧x∈[v,l,o,n]∧a.length≤3:=fun e=>by
  refine ⟨fun y hy=>e▸dQ _ hy,e▸a8 _ (.head _),?_⟩
  have:=congrArg List.length e
  rw [aF,cK] at this
  exact Nat.le_of_succ_le_succ (aA (aT (bX (cV _)) _) (cP this))
 refine sA (ev_y.run (sF rfl ((ev_take (k:=4) (vs:=[.tup (v.map cU),.tup (l.map cU),.tup (o.map cU),.tup (n.map cU),fv]) (aB rfl) (LE rfl)).run ?_)))
 refine pFt (f:=fun ids=>V.tup (ids.map cU)) (xs:=[v,l,o,n]) (fun a c m σ'=>∃t u,m=[some (rowC v l o n fv),some (.bytes (catL eM a)),t,u]∧σ <+:σ') ⟨none,none,rfl,dM⟩ (fun m σ' hI=>?_) fun a ids c e R hR m σ' hI=>?_
 ·obtain ⟨t,u,rfl,p⟩:=hI
  refine sR (cR ((aB rfl).run (w_one (b8 (cQ (aB rfl) aH rfl) aH hf) h256 (N:=360) (catL_len el) rfl p fun s p _=>?_)))
  exact h s p
 ·refine hide fun Gx hGx=>?_
  obtain ⟨t,u,rfl,p⟩:=hI
  obtain ⟨sa,hx,la⟩:=sub e
  obtain ⟨h8,hx⟩:=hle ids hx
  refine hGx ?_
  have lc:=aA (catL_len (g:=eM) fun y hy=>el y (sa y hy)) (bA 90 la)
  have hl:(ids.map cU).length=ids.length:=aK _
  refine bd rfl ?_
  refine sA (cR (Ev.run (aB rfl) (aP (aD (ev_lt (aB rfl)) aG) ?_)))
  rw [hl]
  refine w_var lc rfl (ln h8) p fun s p l1=>?_
  refine sF rfl (Ev.run (aB rfl) ?_)
  refine pFt (f:=cU) (xs:=ids) (fun a' c m σ'=>∃u,m=[some (rowC v l o n fv),some (.bytes (catL eM a++groups ids.length++(a'.map groups).flatten)),some (.tup (ids.map cU)),u]∧σ <+:σ') ⟨u,by rw [iS,hU,bF];rfl,p⟩ (fun m σ' hI=>?_) fun a' x c' e' R' hR' m σ' hI=>?_
  ·obtain ⟨u,rfl,p⟩:=hI
   refine s0 (hR _ _ ⟨some (.tup (ids.map cU)),u,?_,p⟩)
   rw [catL_snoc]
   unfold eM
   rw [←aE]
  ·obtain ⟨u,rfl,p⟩:=hI
   have la':a'.length≤8:=aA (by rw [←e',aF];exact aU _ _) h8
   have l2:=bY l1 (aA (j2 fun y hy=>oP (hx y (e'▸dQ _ hy))) (bA 10 la'))
   refine bd rfl ?_
   refine sA (cR (Ev.run (aB rfl) (aP (aD (aB rfl) aG) ?_)))
   refine w_var l2 rfl (hx x (e'▸a8 _ (.head _))) p fun s p _=>s0 (hR' _ _ ⟨some (cU x),?_,p⟩)
   rw [mG,←aE];rfl
theorem hZ (b:Bool):b.toNat < 256:=by cases b <;> decide
theorem Cf.Ok.w {c:Cf} (h:c.Ok):∀ids∈[c.v,c.l,c.o,c.n],ids.length≤8∧∀x∈ids,x≤18446744073709551615:=d6 ⟨h.v.len,h.v.le⟩ (d6 ⟨h.l.len,h.l.le⟩ (d6 ⟨h.o.len,h.o.le⟩ (d6 ⟨h.n.len,h.n.le⟩ fT)))
theorem n8 {s:Sn} (hk:s.Ok) (h:∀σ',σ <+:σ'→Q (.bytes s.enc) σ'):wpCall (d+4) .law_snap_octets [s.row] σ Q X:=by
 refine ent [some s.row] rfl rfl ?_
 refine sR (cR (cR (cR (aP (aD (cQ (aB rfl) aH rfl) aG) ?_))))
 refine jT hk.i fun τ1=>?_
 refine aP (aD (cQ (aB rfl) aH rfl) aG) ?_
 refine w_var (oP hk.i) rfl hk.t (aW σ τ1) fun s2 p2 l2=>?_
 refine cM (dW (aP (aD (cQ (aB rfl) aH rfl) aG) ?_))
 refine iA (v:=s.c.v) (l:=s.c.l) (o:=s.c.o) (n:=s.c.n) b_addb (hZ _) hk.c.w fun s3 p3=>?_
 refine iB.run aG ?_
 refine w_len l2 (s.c.length hk.c) rfl (p2.trans p3) fun s4 p4 l4=>?_
 refine aP (aD (cQ (aB rfl) aH rfl) aG) ?_
 exact w_len l4 hk.d rfl p4 fun s5 p5 _=>h _ p5
theorem iZ {c:Ch} (hk:c.Ok) (h:∀σ',σ <+:σ'→Q (.bytes c.enc) σ'):wpCall (d+3) .law_change_octets [c.row] σ Q X:=by
 refine ent [some c.row,none,none,none] rfl rfl ?_
 have n10:c.cs.length≤18446744073709551615:=aA hk.len (by decide)
 have hl:(c.cs.map jQ).length=c.cs.length:=aK _
 refine sA (cR (aP (aD (cQ (aB rfl) aH rfl) aG) ?_))
 refine jT hk.tr fun τ1=>?_
 refine aP (aD (ev_lt (cQ (aB rfl) aH rfl)) aG) ?_
 rw [hl]
 refine w_var (oP hk.tr) rfl n10 (aW σ τ1) fun s2 p2 l2=>?_
 refine sF rfl (Ev.run (cQ (aB rfl) aH rfl) ?_)
 refine pFt (f:=jQ) (xs:=c.cs) (fun a b m σ'=>∃t u,m=[some c.row,some (.bytes (groups c.tr++groups c.cs.length++encP a)),t,u]∧σ <+:σ') ⟨none,none,by unfold encP;rw [iS,hU,bF];rfl,p2⟩ (fun m σ' hI=>?_) fun a x b e R hR m σ' hI=>?_
 ·obtain ⟨t,u,rfl,p⟩:=hI
  refine sR (cR (Ev.run (aB rfl) (aP (aD (cQ (aB rfl) aH rfl) aG) ?_)))
  exact w_len (aA (bY l2 (encP_len hk.le)) (aT (bA 20 hk.len) 20)) hk.cx rfl p fun s p _=>h _ p
 ·obtain ⟨t,u,rfl,p⟩:=hI
  have la:a.length≤100:=aA (by rw [←e,aF];exact aU _ _) hk.len
  obtain ⟨x1,x2⟩:=hk.le x (e▸a8 _ (.head _))
  have l3:=bY l2 (aA (encP_len fun y hy=>hk.le y (e▸dQ _ hy)) (bA 20 la))
  refine bd (m':=[some c.row,some (.bytes (groups c.tr++groups c.cs.length++encP a)),some (.int x.1),some (.int x.2)]) rfl ?_
  refine sA (cR (cR (Ev.run (aB rfl) (aP (aD (aB rfl) aG) ?_))))
  refine w_var l3 rfl x1 p fun s p l4=>?_
  refine aP (aD (aB rfl) aG) ?_
  refine w_var l4 rfl x2 p fun s p _=>s0 (hR _ _ ⟨some (.int x.1),some (.int x.2),?_,p⟩)
  unfold encP
  rw [mG,←aE]
  unfold encP1
  rw [←aE];rfl
theorem lenE_len {es:List eN} (h:∀e∈es,e.Ok):((es.map lenE).flatten).length≤es.length*20010:=j2 fun e he=>gB (e.length (h e he)) rfl
theorem fR {hd:List Nat} {fv:V} {fl:Nat} {es:List eN} {sn:Option Sn} {cx:List Nat} (h1:hd.length≤10) (h2:∀x∈hd,x≤18446744073709551615) (hf:gF .add fv (.int 0) (.int fl)) (h256:fl < 256) (h3:es.length≤10) (h4:∀e∈es,e.Ok) (h5:∀s,sn=some s→s.Ok) (h6:cx.length≤1000) (h:∀σ',σ <+:σ'→Q (.bytes (lQ hd fl es sn cx)) σ'):
  wpCall (d+5) .law_message_octets [rowM hd fv es sn cx] σ Q X:=by
 refine ent [some (rowM hd fv es sn cx),none,none,none] rfl rfl ?_
 have n10:es.length≤18446744073709551615:=aA h3 (by decide)
 have hl:(es.map eN.row).length=es.length:=aK _
 refine sA (Ev.run ev_y (sF rfl (Ev.run (cQ (aB rfl) aH rfl) ?_)))
 refine pFt (f:=cU) (xs:=hd) (fun a c m σ'=>∃t,m=[some (rowM hd fv es sn cx),some (.bytes (catL groups a)),t,none]∧σ <+:σ') ⟨none,rfl,dM⟩ (fun m σ' hI=>?_) fun a x c e R hR m σ' hI=>?_
 ·obtain ⟨t,rfl,p⟩:=hI
  refine sA (cR (cR ((aB rfl).run (w_one (b8 (cQ (aB rfl) aH rfl) aH hf) h256 (aA (catL_len fun x hx=>oP (h2 x hx)) (bA 10 h1)) rfl p fun s p l1=>?_))))
  refine aP (aD (ev_lt (cQ (aB rfl) aH rfl)) aG) ?_
  rw [hl]
  refine w_var l1 rfl n10 p fun s p l2=>?_
  refine sF rfl (Ev.run (cQ (aB rfl) aH rfl) ?_)
  refine pFt (f:=eN.row) (xs:=es) (fun a c m σ'=>∃u,m=[some (rowM hd fv es sn cx),some (.bytes (catL groups hd++[fl]++groups es.length++(a.map lenE).flatten)),t,u]∧σ <+:σ') ⟨none,by rw [iS,hU,bF];rfl,p⟩ (fun m σ' hI=>?_) fun a x c e R hR m σ' hI=>?_
  ·obtain ⟨u,rfl,p⟩:=hI
   have l3:=bY l2 (aA (lenE_len h4) (bA 20010 h3))
   induction sn with
   | none=>
    refine mU (dH (cQ (aB rfl) aH rfl) eW c_isN) (sA (cR ((aB rfl).run (w_one (n:=0) aH (by decide) l3 rfl p fun s p l4=>s0 ?_))))
    refine sR (cR (Ev.run (aB rfl) (aP (aD (cQ (aB rfl) aH rfl) aG) ?_)))
    exact w_len l4 h6 rfl p fun s p _=>h _ p
   | some s=>
    have hs:=h5 s rfl
    refine sIf (dH (cQ (aB rfl) aH rfl) eW c_isT) (sA (cR (cR ((aB rfl).run (w_one (n:=1) aH (by decide) l3 rfl p fun s p l4=>?_)))))
    refine cM (dW (aP (aD (cQ (aB rfl) aH rfl) aG) ?_))
    refine n8 hs fun s5 p5=>?_
    refine iB.run aG ?_
    refine w_len l4 (Sn.length _ hs) rfl (p.trans p5) fun s p l6=>s0 ?_
    refine sR (cR (Ev.run (aB rfl) (aP (aD (cQ (aB rfl) aH rfl) aG) ?_)))
    exact w_len l6 h6 rfl p fun s p _=>h _ p
  ·obtain ⟨u,rfl,p⟩:=hI
   have la:a.length≤10:=aA (by rw [←e,aF];exact aU _ _) h3
   have ox:=h4 x (e▸a8 _ (.head _))
   have l3:=bY l2 (aA (lenE_len fun y hy=>h4 y (e▸dQ _ hy)) (bA 20010 la))
   refine bd rfl ?_
   refine sA (cR (Ev.run (aB rfl) (cM (dW (aP (aD (aB rfl) aG) ?_)))))
   refine gO ox fun s4 p4=>?_
   refine iB.run aG ?_
   refine w_len l3 (x.length ox) rfl (p.trans p4) fun s p _=>s0 (hR _ _ ⟨some x.row,?_,p⟩)
   rw [mG,←aE];rfl
 ·obtain ⟨t,rfl,p⟩:=hI
  have la:a.length≤10:=aA (by rw [←e,aF];exact aU _ _) h1
  have l3:=aA (catL_len fun y hy=>oP (h2 y (e▸dQ _ hy))) (bA 10 la)
  refine bd rfl ?_
  refine sA (cR (Ev.run (aB rfl) (aP (aD (aB rfl) aG) ?_)))
  refine w_var l3 rfl (h2 x (e▸a8 _ (.head _))) p fun s p _=>s0 (hR _ _ ⟨some (cU x),?_,p⟩)
  rw [catL_snoc];rfl
theorem iM {k c n:Nat} {key val:List Nat} {ex:Option (List Nat)} (hk:k≤18446744073709551615) (hc:c≤18446744073709551615) (hn:n≤18446744073709551615) (h1:key.length≤1000) (h2:val.length≤1000) (h3:lK 1000 ex) (h:∀σ',σ <+:σ'→Q (.bytes (hG k c n key val ex)) σ'):wpCall (d+4) .law_command_octets [.tup [.int k,.int c,.int n,.bytes key,.bytes val,fV ex]] σ Q X:=by
 refine ent [some (.tup [.int k,.int c,.int n,.bytes key,.bytes val,fV ex])] rfl rfl ?_
 refine sR (cR (cR (cR (cR (cR (aP (aD (cQ (aB rfl) aH rfl) aG) ?_))))))
 refine jT hk fun τ1=>?_
 refine aP (aD (cQ (aB rfl) aH rfl) aG) ?_
 refine w_var (oP hk) rfl hc (aW σ τ1) fun s p l=>?_
 refine aP (aD (cQ (aB rfl) aH rfl) aG) ?_
 refine w_var l rfl hn p fun s p l=>?_
 refine aP (aD (cQ (aB rfl) aH rfl) aG) ?_
 refine w_len l h1 rfl p fun s p l=>?_
 refine aP (aD (cQ (aB rfl) aH rfl) aG) ?_
 refine w_len l h2 rfl p fun s p l=>?_
 refine aP (aD (cQ (aB rfl) aH rfl) aG) ?_
 exact w_opt l h3 rfl p fun s p _=>h _ p
end
end
section
section
variable {d:Nat} {σ0 σ τ:aN} {Q:V→aN→Prop} {X:Ex→aN→Prop} {i j N:Nat} {b:List Nat}
theorem rev_range (l:List Nat):l.reverse=(List.range l.length).map fun i=>l.getD (l.length - 1 - i) 0:=by
 apply List.ext_getElem
 ·rw [List.length_reverse,aK,eH]
 ·intro i h1 h2
  rw [List.length_reverse] at h1
  rw [List.getElem_reverse,List.getElem_map,lA,jO,c5 (aS (Nat.sub_le _ _) (Nat.sub_lt (aS (cV _) ‹_›) lD))]
  rfl
theorem n9 {ids:List Nat} (hl:ids.length≤8) (h:∀σ' k,σ <+:σ'→IsL σ' k (ids.reverse++ids)→Q (.obj k) σ'):wpCall (d+1) .law_mixed [.tup (ids.map cU)] σ Q X:=by
 refine ent [some (.tup (ids.map cU))] rfl rfl ?_
 have hlm:(ids.map cU).length=ids.length:=aK _
 have hz:ids.length≤lim:=aA hl (LE rfl)
 refine sR (cR (eCr (Ev.run (ev_lt (aB rfl)) ?_)))
 rw [hlm]
 refine pCr hz (fun i=>cU (ids.getD (ids.length - 1 - i) 0)) (fun _ s=>s=σ) rfl (fun s e=>?_) fun j hj R hR s e=>⟨[some (.int (j:Nat)),some (.tup (ids.map cU))],rfl,?_⟩
 ·subst e
  refine eC rfl (Ev.run (aB rfl) ?_)
  refine pCt (f:=cU) (xs:=ids) cU (fun _ s'=>s'=s++[.list ((List.range ids.length).map fun i=>cU (ids.getD (ids.length - 1 - i) 0))]) rfl hz (fun s' e=>?_) fun a x c e R hR s' e'=>⟨[some (cU x)],rfl,(aB rfl).run (hR _ e')⟩
  subst e
  refine p_addL (cL aQ) aQ ?_ (h _ _ (((aW _ _).trans (aW _ _)).trans (aW _ _)) ?_)
  ·rw [aK,aK,eH]
   exact aA (fY hl hl) (LE rfl)
  ·have e:(List.range ids.length).map (fun i=>cU (ids.getD (ids.length - 1 - i) 0))++ids.map cU=(ids.reverse++ids).map cU:=by
    rw [bI,rev_range,fN];rfl
   show _=some (AO.list _)
   rw [←e]
   exact aQ
 ·subst e
  have e5:gF .sub (.int ((ids.length - 1:Nat):Int)) (.int (j:Nat)) (.int ((ids.length - 1 - j:Nat):Int)):=by rw [Int.natCast_sub (Nat.le_sub_one_of_lt hj)];exact b_sub
  have e6:gF .sub (.int ((ids.map cU).length:Nat)) (.int 1) (.int ((ids.length - 1:Nat):Int)):=by rw [hlm,Int.natCast_sub (aS (cV _) hj)];exact b_sub
  have e7:(ids.map cU)[ids.length - 1 - j]? =some (cU (ids.getD (ids.length - 1 - j) 0)):=by
   rw [gL,jO,c5 (aS (Nat.sub_le _ _) (Nat.sub_lt (aS (cV _) hj) lD))];rfl
  exact (cQ (aB rfl) (b8 (b8 (ev_lt (aB rfl)) aH e6) (aB rfl) e5) (nthN e7)).run (hR _ rfl)
end
section
variable {d:Nat} {σ:aN} {Q:V→aN→Prop} {X:Ex→aN→Prop} {jt ja:Nat} {t:List Int}
noncomputable def subV (x:Nat):V:=.tup ((subN x 4).map cU)
theorem idv_at:∀{j:Nat},j < 4→[V.int 1,V.int 2,V.int 130,V.int 70000][j]? =some (cU (idv j))
 | 0,_=>rfl | 1,_=>rfl | 2,_=>rfl | 3,_=>rfl
 | _+4,h=>absurd h (bK.mpr (eK _ _))
theorem four {α:Type} {l:List α} (h:l.length=4):∃a b c e,l=[a,b,c,e]:=by
 match l,h with
 | [a,b,c,e],_=>exact ⟨a,b,c,e,rfl⟩
theorem c_law_conf (D:Dr t jt ja σ) (h:∀v l o n,jV v→jV l→jV o→jV n→∀b σ',Fr ja σ σ'→Dr t jt ja σ'→Q (Cf.row ⟨v,l,o,n,b⟩) σ'):wpCall (d+2) .law_conf [.obj jt,.obj ja] σ Q X:=by
 refine ent [some (.obj jt),some (.obj ja),none,none,none,none] rfl rfl ?_
 refine sA (Ev.run (fJ (aD aH (aD aH (aD aH (aD aH aG)))) rfl) (sA (eA aG rfl (sFr (Ev.run aH ?_)))))
 refine pRg (n:=4) (LE rfl) (fun j m s'=>∃r xs t4 t5,m=[some (.obj jt),some (.obj ja),some (.tup [.int 1,.int 2,.int 130,.int 70000]),some (.obj r),t4,t5]∧s'[r]? =some (.list ((xs:List Nat).map subV))∧xs.length=j∧(∀x∈xs,x < 16)∧Fr ja σ s'∧Dr t jt ja s'∧ja < r) ⟨σ.length,[],none,none,rfl,aQ,rfl,fT,.of_pre (aW _ _),D.pre (aW _ _),D.lt⟩ (fun m s' hI=>?_) fun j hj R hR m s' hI=>?_
 ·refine hide fun Gx hGx=>?_
  obtain ⟨r,xs,t4,t5,rfl,hr,hx,h16,F,D1,ne⟩:=hI
  obtain ⟨a,b,c,e,rfl⟩:=four hx
  refine hGx ?_
  have s16:∀x,x∈[a,b,c,e]→jV (subN x 4):=fun x hx=>⟨x,h16 x hx,rfl⟩
  refine sR (lR (dW (Ev.run (iL (aB rfl) hr aH rfl) (dW (Ev.run (iL (aB rfl) hr aH rfl) (dW (Ev.run (iL (aB rfl) hr aH rfl) (dW (Ev.run (iL (aB rfl) hr aH rfl) (dW (e_cmp (aP (aD (aB rfl) (aD (aB rfl) (aD aH aG))) ?_))))))))))))
  refine hH (m:=2) D1 (by decide) fun n hn s2 f2 D2=>?_
  refine Ev.run aH (eI.run (dR rfl) (iB.run aG (p_tu rfl ?_)))
  exact h _ _ _ _ (s16 a (.head _)) (s16 b (.tail _ (.head _))) (s16 c (.tail _ (.tail _ (.head _)))) (s16 e (.tail _ (.tail _ (.tail _ (.head _))))) _ _ (F.trans f2) D2
 ·obtain ⟨r,xs,t4,t5,rfl,hr,hx,h16,F,D1,ne⟩:=hI
  refine bd rfl ?_
  refine sA (aP (aD (aB rfl) (aD (aB rfl) (aD aH aG))) ?_)
  refine hH (m:=16) D1 (by decide) fun x hx16 s2 f2 D2=>?_
  have hr2:=f2 _ _ (cJ ne) hr
  refine sA (cR (Ev.run (aB rfl) (e_lstc (dW (fH (eCr (Ev.run aH ?_)))))))
  refine pCrG (n:=4) (LE rfl) (fun j acc s'=>s'=s2∧acc=(subN x j).map cU) ⟨rfl,rfl⟩ (fun acc s' hI=>?_) fun j hj acc R hR s' hI=>?_
  ·obtain ⟨rfl,rfl⟩:=hI
   have hs:=jV.len ⟨x,hx16,rfl⟩
   refine ⟨by rw [aK];exact aA hs (LE rfl),?_⟩
   refine p_tup aQ (iB.run aG (p_ls rfl ?_))
   refine p_addL (cL (cL hr2)) aQ (by rw [aK,hx];exact aA (d9 (b6 hj) _) (LE rfl)) (s0 ?_)
   have p:s' <+:s'++[.list ((subN x 4).map cU)]++[.list [subV x]]++[.list (xs.map subV++[subV x])]:=((aW _ _).trans (aW _ _)).trans (aW _ _)
   refine hR _ _ ⟨_,xs++[x],some (.int j),some (.int x),rfl,?_,by rw [len1,hx],all_snoc h16 hx16,(F.trans f2).trans (.of_pre p),D2.pre p,aJ D2.lt ((aW _ _).trans (aW _ _)).length_le⟩
   rw [bI]
   exact aQ
  ·obtain ⟨rfl,rfl⟩:=hI
   have ej:=subN_s x j
   have p0:0 < 2 ^ j:=Nat.pow_pos (by decide)
   have p1:2 ^ j < 2 ^ 100:=Nat.pow_lt_pow_right (by decide) (dD hj (by decide))
   have e1:Ev [some (.int (j:Nat)),some (.tup [.int 1,.int 2,.int 130,.int 70000]),some (.int (x:Nat))] s' (.bin .mod (.bin .fdiv (.loc 2) (.bin .pow (.cI 2) (.loc 0))) (.cI 2)) (.int (x / 2 ^ j % 2:Nat)):=b8 (b8 (aB rfl) (b8 aH (aB rfl) (b_powN (p:=2) (aA (b6 hj) (by decide)) (by decide))) (kA p0 p1)) aH (dU (q:=2) (by decide))
   refine bdCi (m':=[some (.int (j:Nat)),some (.tup [.int 1,.int 2,.int 130,.int 70000]),some (.int (x:Nat))]) rfl ?_
   by_cases q:x / 2 ^ j % 2=1
   ·rw [if_pos q] at ej
    refine nI.rT (dH e1 aH (dR (decide_eq_true (congrArg Nat.cast q)))) (iT ((cQ (aB rfl) (aB rfl) (nthN (idv_at hj))).run (hR _ _ ⟨rfl,?_⟩)))
    rw [ej,bI];rfl
   ·rw [if_neg q,bF] at ej
    refine nI.rF (dH e1 aH (dR (decide_eq_false (neq q)))) (iF (hR _ _ ⟨rfl,?_⟩))
    rw [ej]
end
structure Ms.Ok (m:Ms):Prop where
 hd:∀x∈m.hd,x≤18446744073709551615
 len:m.es.length≤10
 es:∀e∈m.es,e.Ok
 sn:∀s,m.sn=some s→s.Ok
 cx:m.cx.length≤1000
structure Ms.H (m:Ms) (P:Nat→Prop):Prop where
 k:P m.k
 to:P m.to
 fr:P m.fr
 tm:P m.tm
 lt:P m.lt
 ix:P m.ix
 cm:P m.cm
 hn:P m.hn
theorem Ms.h_of {m:Ms} {P:Nat→Prop} (h:∀x∈m.hd,P x):m.H P:=
 ⟨h _ (.head _),h _ (.tail _ (.head _)),h _ (.tail _ (.tail _ (.head _))),h _ (.tail _ (.tail _ (.tail _ (.head _)))),h _ (.tail _ (.tail _ (.tail _ (.tail _ (.head _))))),h _ (.tail _ (.tail _ (.tail _ (.tail _ (.tail _ (.head _)))))),h _ (.tail _ (.tail _ (.tail _ (.tail _ (.tail _ (.tail _ (.head _))))))),h _ (.tail _ (.tail _ (.tail _ (.tail _ (.tail _ (.tail _ (.tail _ (.head _))))))))⟩
theorem Sk.le {σ0 σ:aN} {b:List Nat} {N M:Nat} (h:Sk σ0 b N σ) (q:N≤M):Sk σ0 b M σ:=⟨h.ext,aA h.len q⟩
section
variable {d:Nat} {σ0 σ τ:aN} {Q:V→aN→Prop} {X:Ex→aN→Prop} {i j:Nat}
theorem oZ {m:Ms} (hk:m.Ok) (hm:nE σ i m) (h:∀σ',σ <+:σ'→Q (.bytes m.enc) σ'):wpCall (d+7) .encode_message [.obj i] σ Q X:=by
 obtain ⟨le,ps,sv,h0,h1,h2,he,h3⟩:=hm
 obtain ⟨q1,q2,q3,q4,q5,q6,q7,q8⟩:=Ms.h_of hk.hd
 have hl:(ps.map obP).length=m.es.length:=by rw [←he,aK,aK]
 have n10:m.es.length≤18446744073709551615:=aA hk.len (by decide)
 refine ent [some (.obj i),none,none] rfl rfl ?_
 refine sA (eQ aG ?_)
 refine fE fun s1 S1=>?_
 refine nq (sE (aZ (aB rfl) (Sk.sink S1) rfl (aD (a9 (aB rfl) (Sk.old S1 h0) rfl) aG) ?_))
 refine bP S1 q1 rfl fun s2 S2=>?_
 refine sE (aZ (aB rfl) (Sk.sink S2) rfl (aD (a9 (aB rfl) (Sk.old S2 h0) rfl) aG) ?_)
 refine bP S2 q2 rfl fun s3 S3=>?_
 refine sE (aZ (aB rfl) (Sk.sink S3) rfl (aD (a9 (aB rfl) (Sk.old S3 h0) rfl) aG) ?_)
 refine bP S3 q3 rfl fun s4 S4=>?_
 refine sE (aZ (aB rfl) (Sk.sink S4) rfl (aD (a9 (aB rfl) (Sk.old S4 h0) rfl) aG) ?_)
 refine bP S4 q4 rfl fun s5 S5=>?_
 refine sE (aZ (aB rfl) (Sk.sink S5) rfl (aD (a9 (aB rfl) (Sk.old S5 h0) rfl) aG) ?_)
 refine bP S5 q5 rfl fun s6 S6=>?_
 refine sE (aZ (aB rfl) (Sk.sink S6) rfl (aD (a9 (aB rfl) (Sk.old S6 h0) rfl) aG) ?_)
 refine bP S6 q6 rfl fun s7 S7=>?_
 refine sE (aZ (aB rfl) (Sk.sink S7) rfl (aD (a9 (aB rfl) (Sk.old S7 h0) rfl) aG) ?_)
 refine bP S7 q7 rfl fun s8 S8=>?_
 refine sE (aZ (aB rfl) (Sk.sink S8) rfl (aD (a9 (aB rfl) (Sk.old S8 h0) rfl) aG) ?_)
 refine bP S8 q8 rfl fun s9 S9=>?_
 refine sE (aZ (aB rfl) (Sk.sink S9) rfl (aD (a9 (aB rfl) (Sk.old S9 h0) rfl) aG) ?_)
 refine iO S9 rfl fun s10 S10=>?_
 refine sE (aZ (aB rfl) (Sk.sink S10) rfl (aD (ev_lo (a9 (aB rfl) (Sk.old S10 h0) rfl) (Sk.old S10 h1)) aG) ?_)
 rw [hl]
 refine bP S10 n10 rfl fun s11 S11=>?_
 refine sF rfl (Ev.run (a9 (aB rfl) (Sk.old S11 h0) rfl) ?_)
 have hps:ps.length≤10:=aA (cP (by rw [←he,aK])) hk.len
 have hes:∀p∈ps,p.2.Ok:=fun p hp=>hk.es _ (he▸List.mem_map_of_mem hp)
 have S12:Sk σ (catL groups m.hd++[m.rj.toNat]++groups m.es.length) 91 s11:=S11
 clear S1 S2 S3 S4 S5 S6 S7 S8 S9 S10 S11 q1 q2 q3 q4 q5 q6 q7 q8
 refine pFo (f:=obP) (xs:=ps) (fun a c mm σ'=>∃t,mm=[some (.obj i),some (.obj σ.length),t]∧Sk σ (catL groups m.hd++[m.rj.toNat]++groups m.es.length++(a.map fun p=>lenE p.2).flatten) (91+a.length*20010) σ') ⟨none,rfl,by rw [iS,hU,bF];exact S12⟩ (fun a c mm σ' hI=>?_) (fun mm σ' hI=>?_) fun a x c e R hR mm σ' hI=>?_
 ·obtain ⟨t,_,S⟩:=hI
  exact S.old h1
 ·obtain ⟨t,rfl,S⟩:=hI
  have S:=S.le (aT (bA 20010 hps) 91)
  have ee:(ps.map fun p=>lenE p.2).flatten=(m.es.map lenE).flatten:=by rw [←he,fN];rfl
  rw [ee] at S
  unfold Ms.enc lQ at h
  have hks:=hk.sn
  generalize hsn:m.sn=sn at h3 h hks
  induction h3 with
  | no=>
   refine sE (aZ (aB rfl) (Sk.sink S) rfl (aD (ev_c (a9 (aB rfl) (Sk.old S h0) rfl) eW fA) aG) ?_)
   refine iO S rfl fun s2 S2=>?_
   refine iV (dH (a9 (aB rfl) (Sk.old S2 h0) rfl) eW fA) (sE (aZ (aB rfl) (Sk.sink S2) rfl (aD (a9 (aB rfl) (Sk.old S2 h0) rfl) aG) ?_))
   refine cX S2 hk.cx rfl fun s3 S3=>?_
   refine sR (aZ (aB rfl) (Sk.sink S3) rfl aG ?_)
   exact fS S3 (h _ S3.pre)
  | so hs=>
   refine sE (aZ (aB rfl) (Sk.sink S) rfl (aD (ev_c (a9 (aB rfl) (Sk.old S h0) rfl) eW c_isnO) aG) ?_)
   refine iO S rfl fun s2 S2=>?_
   refine mU (dH (a9 (aB rfl) (Sk.old S2 h0) rfl) eW c_isnO) (sE (e_meth1 (aB rfl) (Sk.sink S2) rfl (dW (aP (aD (a9 (aB rfl) (Sk.old S2 h0) rfl) aG) ?_))))
   refine oA (hks _ rfl) (hs.mono S2.pre) fun s3 p3=>?_
   have S3:=S2.mono p3
   refine iB.run aG ?_
   refine cX S3 (Sn.length _ (hks _ rfl)) rfl fun s4 S4=>?_
   refine s0q (sE (aZ (aB rfl) (Sk.sink S4) rfl (aD (a9 (aB rfl) (Sk.old S4 h0) rfl) aG) ?_))
   refine cX S4 hk.cx rfl fun s5 S5=>?_
   refine sR (aZ (aB rfl) (Sk.sink S5) rfl aG ?_)
   exact fS S5 (h _ S5.pre)
 ·obtain ⟨t,rfl,S⟩:=hI
  have la:a.length+1≤10:=aA (by rw [←e,aF,cK];exact aT (bX (cV _)) _) hps
  have ox:=hes x (e▸a8 _ (.head _))
  refine bd rfl ?_
  refine sE (e_meth1 (aB rfl) (Sk.sink S) rfl (dW (aP (aD (aB rfl) aG) ?_)))
  refine m7 ox (bZ S.pre (h2 x (e▸a8 _ (.head _)))) fun s2 p2=>?_
  have S2:=S.mono p2
  refine iB.run aG ?_
  refine cX S2 (x.2.length ox) (dX (aA (cP (c4 _ _ _)) (aA (aT (cP (jW _ _).symm) _) (aA (aT (bA 20010 la) 91) (by decide))))) fun s3 S3=>?_
  refine s0 ?_
  refine hR _ _ ⟨some (obP x),rfl,?_⟩
  rw [mG,←aE,len1,jW,←c4]
  exact S3
end
end
section
noncomputable def entsN:Nat→List eN→List Nat→Except Ex (List eN×List Nat)
 | 0,acc,r=>.ok (acc,r)
 | k+1,acc,r=>bnd (pl r) fun a=>bnd (dEnt a.1) fun e=>entsN k (acc++[e]) a.2
noncomputable def psn (f:Bool) (r:List Nat):Except Ex (Option Sn×List Nat):=if f=true then bnd (pl r) fun c=>bnd (dSnap c.1) fun s=>.ok (some s,c.2) else .ok (none,r)
noncomputable def Ms.fin (m:Ms) (es:List eN) (sn:Option Sn) (cx:List Nat):Ms:=⟨m.k,m.to,m.fr,m.tm,m.lt,m.ix,m.cm,m.hn,m.rj,es,sn,cx⟩
noncomputable def dMc (m:Ms) (es:List eN) (sn:Option Sn) (r:List Nat):Except Ex Ms:=bnd (pl r) fun cx=>bnd (pd cx.2) fun _=>.ok (m.fin es sn cx.1)
noncomputable def dMs (m:Ms) (es:List eN) (r:List Nat):Except Ex Ms:=bnd (pf r) fun f=>bnd (psn f.1 f.2) fun sn=>dMc m es sn.1 sn.2
noncomputable def dMe (m:Ms) (r:List Nat):Except Ex Ms:=bnd (pcount r) fun n=>bnd (entsN n.1 [] n.2) fun es=>dMs m es.1 es.2
noncomputable def dMh (k to fr tm:Nat) (r:List Nat):Except Ex Ms:=bnd (pv r) fun lt=>bnd (pv lt.2) fun ix=>bnd (pv ix.2) fun cm=>bnd (pv cm.2) fun hn=>bnd (pf hn.2) fun rj=>dMe ⟨k,to,fr,tm,lt.1,ix.1,cm.1,hn.1,rj.1,[],none,[]⟩ rj.2
noncomputable def dMsg (data:List Nat):Except Ex Ms:=bnd (pv data) fun k=>if 20 < k.1 then .error .Corrupt else bnd (pv k.2) fun to=>bnd (pv to.2) fun fr=>bnd (pv fr.2) fun tm=>dMh k.1 to.1 fr.1 tm.1 tm.2
noncomputable def All {α:Type} (p:Except Ex α) (A:α→Prop):Prop:=∀a,p=.ok a→A a
noncomputable def hkS (r:List Nat):Prop:=All (pf r) fun f=>f.1=true→All (pl f.2) fun c=>snGood c.1
noncomputable def hkE (r:List Nat):Prop:=All (pcount r) fun n=>All (entsN n.1 [] n.2) fun es=>hkS es.2
noncomputable def hkH (r:List Nat):Prop:=All (pv r) fun lt=>All (pv lt.2) fun ix=>All (pv ix.2) fun cm=>All (pv cm.2) fun hn=>All (pf hn.2) fun rj=>hkE rj.2
noncomputable def hkMsg (data:List Nat):Prop:=All (pv data) fun k=>All (pv k.2) fun to=>All (pv to.2) fun fr=>All (pv fr.2) fun tm=>hkH tm.2
noncomputable def M.tl:Nat→M→M
 | 0,m=>m
 | n+1,.cons _ r=>r.tl n
 | _,m=>m
section
variable {σ τ:aN} {a b c o e:AO} {i:Nat}
theorem get_at2:(σ++a::b::c::τ)[σ.length+2]? =some c:=by
 rw [cG (aU _ 2),dO];rfl
theorem set_at2:(σ++a::b::c::τ).set (σ.length+2) e=σ++a::b::e::τ:=by
 rw [mJ _ _ (aU _ 2),dO];rfl
theorem app3 {t:aN}:σ++a::b::c::τ++t=σ++a::b::c::(τ++t):=by rw [aE];rfl
theorem keep3 {a' b' c':AO} (ha:stl a=false) (hb:stl b=false) (ho:stl o=true) (hc:c≠o∨c=c') (h:(σ++a::b::c::τ)[i]? =some o):(σ++a'::b'::c'::τ)[i]? =some o:=by
 rcases Nat.lt_or_ge i σ.length with q | q
 ·rw [bT q] at h ⊢;exact h
 ·rw [cG q] at h ⊢
  cases hj:i - σ.length with
  | zero=>rw [hj] at h;exact absurd (Option.some.inj h) (stl_ne ha ho)
  | succ j=>
   induction j with
   | zero=>rw [hj] at h;exact absurd (Option.some.inj h) (stl_ne hb ho)
   | succ j=>
    rw [hj] at h
    induction j with
    | zero=>exact hc.elim (fun hc=>absurd (Option.some.inj h) hc) fun hc=>hc▸h
    | succ j=>exact h
theorem list_ne {l:List V} {e:eN}:AO.list l≠e.o:=fun z=>AO.noConfusion z
end
theorem dV.keep {σ τ:aN} {a b a' b' c':AO} {l:List V} {ps:List PE} (ha:stl a=false) (hb:stl b=false) (h:dV (σ++a::b::.list l::τ) ps):dV (σ++a'::b'::c'::τ) ps:=fun p hp=>keep3 ha hb rfl (.inl list_ne) (h p hp)
theorem SnV.keep {σ τ:aN} {a b a' b' c:AO} {v:V} {s:Option Sn} (ha:stl a=false) (hb:stl b=false) (h:SnV (σ++a::b::c::τ) v s):SnV (σ++a'::b'::c::τ) v s:=h.imp fun _ _ ho=>keep3 ha hb ho (.inr rfl)
theorem all_snocE {σ:aN} {ps:List PE} {p:PE} (h:dV σ ps) (q:σ[p.1]? =some p.2.o):dV σ (ps++[p]):=all_snoc h q
section
variable {d:Nat} {σ τ:aN} {Q:V→aN→Prop} {X:Ex→aN→Prop} {data r:List Nat} {v2 v3 v4 t:Option V} {m:Ms} {ps:List PE}
noncomputable abbrev decP (σ:aN) (Q:V→aN→Prop):Ms→Prop:=fun m=>∀σ' k,σ <+:σ'→nE σ' k m→Q (.obj k) σ'
noncomputable abbrev anyX (σ:aN) (X:Ex→aN→Prop):Ex→Prop:=fun x=>∀σ',σ <+:σ'→X x σ'
theorem dm_tail {sv:V} {sn:Option Sn} (hz:data.length≤lim) (s5:r <:+data) (hE:dV (σ++cur data r::jJ m (σ.length+2) sv::iH ps::τ) ps) (hS:SnV (σ++cur data r::jJ m (σ.length+2) sv::iH ps::τ) sv sn) (h:eU (dMc m (ps.map Prod.snd) sn r) (decP σ Q) (anyX σ X)):
  wpSs (wpCall (d+8)) (iY.tl 13) [some (.bytes data),some (.obj σ.length),v2,v3,v4,some (.obj (σ.length+1)),t] (σ++cur data r::jJ m (σ.length+2) sv::iH ps::τ) (mV Q) (exK X):=by
 refine sAt (aZ (aB rfl) bB rfl aG ?_)
 refine fG hz s5 h er0 fun cx r6 h s6 e=>?_
 clear e
 refine jR (aB rfl) jF rfl nR (sE (aZ (aB rfl) bB rfl aG ?_))
 refine r_done hz s6 h er0 fun h=>?_
 refine sR (Ev.run (aB rfl) ?_)
 exact h _ _ (aW _ _) ⟨σ.length+2,ps,sv,jF,get_at2,hE.keep rfl rfl,rfl,hS.keep rfl rfl⟩
theorem dm_snap (hz:data.length≤lim) (hb:∀x∈data,x < 256) (s3:r <:+data) (hE:dV (σ++cur data r::jJ m (σ.length+2) .none::iH ps::τ) ps) (hk:hkS r) (h:eU (dMs m (ps.map Prod.snd) r) (decP σ Q) (anyX σ X)):
  wpSs (wpCall (d+8)) (iY.tl 12) [some (.bytes data),some (.obj σ.length),v2,v3,v4,some (.obj (σ.length+1)),t] (σ++cur data r::jJ m (σ.length+2) .none::iH ps::τ) (mV Q) (exK X):=by
 refine sI (t_val rfl (aZ (aB rfl) bB rfl aG ?_))
 refine r_flag hb s3 h er2 fun f r4 h s4 e=>?_
 have hk:=hk _ e
 clear e
 have hE4:dV (σ++cur data r4::jJ m (σ.length+2) .none::iH ps::τ) ps:=hE.keep rfl rfl
 induction f with
 | false=>
  refine p_tb (pI0 ?_)
  exact dm_tail hz s4 hE4 .no h
 | true=>
  have hk:=hk rfl
  have h1:eU (bnd (pl r4) fun c=>bnd (dSnap c.1) fun s=>.ok (some s,c.2)) (fun p=>eU (dMc m (ps.map Prod.snd) p.1 p.2) (decP σ Q) (anyX σ X)) (anyX σ X):=(h.bnd (fun _ _ b=>b) fun _ _ q=>q:eU (psn true r4) _ _)
  clear h
  refine p_tb (pIt (sAt (cM (dW (aZ (aB rfl) bB rfl aG ?_)))))
  refine fG hz s4 h1 er0 fun c r5 h s5 e=>?_
  obtain ⟨iz,ib⟩:=pl_in e s4 hz hb
  have hk:=hk _ e
  clear e
  refine iB.run aG ?_
  refine oB iz ib hk (h.bnd (fun _ _ b σ' p=>b _ ((aW _ _).trans p)) fun s _ h σ' kc p hc=>?_)
  obtain ⟨t5,rfl⟩:=p
  rw [app3] at hc ⊢
  refine jR (aB rfl) jF rfl nR (s0q ?_)
  have hE5:=hE4.mono (aW _ t5)
  rw [app3] at hE5
  exact dm_tail hz s5 (hE5.keep rfl rfl) ((SnV.so hc).keep rfl rfl) h
theorem dm_loop (hz:data.length≤lim) (hb:∀x∈data,x < 256) (sr:r <:+data) (hk:hkE r) (h:eU (dMe m r) (decP σ Q) (anyX σ X)):
  wpSs (wpCall (d+8)) (iY.tl 11) [some (.bytes data),some (.obj σ.length),v2,v3,v4,some (.obj (σ.length+1)),none] (σ++cur data r::jJ m (σ.length+2) .none::iH []::τ) (mV Q) (exK X):=by
 refine sFr (aP (aD (aB rfl) aG) ?_)
 refine r_count hz sr h er2 fun n r2 hv h s2 e=>?_
 have hk:=hk _ e
 clear e
 have hvl:=aA hv (aA s2.length_le hz)
 refine pRg hvl (fun j mm σ'=>∃(ps:List PE) (r':List Nat) (τ':aN) (t:Option V),mm=[some (.bytes data),some (.obj σ.length),v2,v3,v4,some (.obj (σ.length+1)),t]∧σ'=σ++cur data r'::jJ m (σ.length+2) .none::iH ps::τ'∧r' <:+data∧dV σ' ps∧ps.length=j∧entsN (n - j) (ps.map Prod.snd) r'=entsN n [] r2)
  ⟨[],r2,τ,none,rfl,rfl,s2,fT,rfl,rfl⟩ (fun mm σ' hI=>?_) fun j hj R hR mm σ' hI=>?_
 ·obtain ⟨ps,r',τ',t,rfl,rfl,s3,hE,_,hp⟩:=hI
  rw [gK] at hp
  exact dm_snap hz hb s3 hE (hk _ hp.symm) (h.k hp.symm)
 ·obtain ⟨ps,r',τ',t,rfl,rfl,s3,hE,hjn,hp⟩:=hI
  have ej:n - j=(n - (j+1))+1:=(Nat.succ_pred_eq_of_pos (Nat.sub_pos_of_lt hj)).symm
  rw [ej] at hp
  have h1:eU (entsN n [] r2) (fun _=>True) (anyX σ X):=h.bnd (fun _ _ b=>b) fun _ _ _=>trivial
  rw [←hp] at h1
  clear h hk
  have hlen:(ps.map obP).length < lim:=by rw [aK,hjn];exact aJ hj hvl
  refine bd rfl ?_
  refine sE (e_appc (xs:=ps.map obP) (a9 (aB rfl) jF rfl) get_at2 ?_)
  refine cM (dW (aZ (aB rfl) bB rfl aG ?_))
  refine fG hz s3 h1 er0 fun c r5 h1 s5 e=>?_
  have iz:=(pl_in e s3 hz hb).1
  refine iB.run aG ?_
  refine c_decode_entry iz (h1.bnd (fun _ _ b σ' p=>b _ ((aW _ _).trans p)) fun en e2 _ σ' ke p he=>?_)
  obtain ⟨t5,rfl⟩:=p
  rw [app3] at he ⊢
  have hE5:=hE.mono (aW _ t5)
  rw [app3] at hE5
  refine p_app get_at2 hlen set_at2 (s0 ?_)
  have eo:AO.list (ps.map obP++[.obj ke])=iH (ps++[(ke,en)]):=by unfold iH;rw [bI];rfl
  rw [eo]
  refine hR _ _ ⟨ps++[(ke,en)],r5,τ'++t5,some (.int j),rfl,rfl,s5,all_snocE (hE5.keep rfl rfl) (keep3 rfl rfl rfl (.inl list_ne) he),by rw [len1,hjn],?_⟩
  rw [←hp,bI]
  show _=bnd (pl r') _
  rw [e]
  show _=bnd (dEnt c) _
  rw [e2];rfl
theorem c_decode_message (hz:data.length≤lim) (hb:∀x∈data,x < 256) (hk:hkMsg data) (h:eU (dMsg data) (decP σ Q) (anyX σ X)):wpCall (d+9) .decode_message [.bytes data] σ Q X:=by
 refine ent [some (.bytes data),none,none,none,none,none,none] rfl rfl ?_
 refine sA (eQ (aD (aB rfl) aG) ?_)
 refine k_init ?_
 refine nq (sA (aZ (aB rfl) aQ rfl aG ?_))
 refine dP fI h er0 fun k r1 hkk h s1 e=>?_
 have hk:=hk _ e
 clear e
 by_cases w:20 < k
 ·have w2:=oE hkk rfl
  refine mU (dH (aB rfl) (iX rfl) (eS (decide_eq_true (bH.mpr w)))) (sX1 (ev_f (ef_s (lX rfl (aB rfl) w2 ef_n))) ?_)
  exact h.t w _ (aW _ _)
 have h:=h.e w
 refine iV (dH (aB rfl) (iX rfl) (eS (decide_eq_false (nlt w)))) (sA (aZ (aB rfl) aQ rfl aG ?_))
 refine dP s1 h er0 fun to r2 _ h s2 e=>?_
 have hk:=hk _ e
 clear e
 refine sA (aZ (aB rfl) aQ rfl aG ?_)
 refine dP s2 h er0 fun fr r3 _ h s3 e=>?_
 have hk:=hk _ e
 clear e
 refine sA (e_newc (dW (Ev.run (aB rfl) (dW (Ev.run (aB rfl) (dW (Ev.run (aB rfl) (dW (aZ (aB rfl) aQ rfl aG ?_)))))))))
 refine dP s3 h er0 fun tm r4 _ h s4 e=>?_
 have hk:=hk _ e
 clear e
 refine iB.run aG ?_
 refine m8 (nq ?_)
 have es:∀{a b:AO},(σ++[cur data r4])++[a,b]=σ++cur data r4::a::b::[]:=aE _ _ _
 rw [es,len1]
 refine sAt (aZ (aB rfl) bB rfl aG ?_)
 refine dP s4 h er0 fun lt r5 _ h s5 e=>?_
 have hk:=hk _ e
 clear e
 refine jR (aB rfl) jF rfl nR (sAt (aZ (aB rfl) bB rfl aG ?_))
 refine dP s5 h er0 fun ix r6 _ h s6 e=>?_
 have hk:=hk _ e
 clear e
 refine jR (aB rfl) jF rfl nR (sAt (aZ (aB rfl) bB rfl aG ?_))
 refine dP s6 h er0 fun cm r7 _ h s7 e=>?_
 have hk:=hk _ e
 clear e
 refine jR (aB rfl) jF rfl nR (sAt (aZ (aB rfl) bB rfl aG ?_))
 refine dP s7 h er0 fun hn r8 _ h s8 e=>?_
 have hk:=hk _ e
 clear e
 refine jR (aB rfl) jF rfl nR (sAt (aZ (aB rfl) bB rfl aG ?_))
 refine r_flag hb s8 h er2 fun rj r9 h s9 e=>?_
 have hk:=hk _ e
 clear e
 refine jR (aB rfl) jF rfl nR ?_
 exact dm_loop (m:=⟨k,to,fr,tm,lt,ix,cm,hn,rj,[],none,[]⟩) hz hb s9 hk h
end
end
section
inductive SnVF (lo:Nat) (σ:aN):V→Option Sn→Prop
 | no:SnVF lo σ .none none
 | so {k:Nat} {s:Sn} (a:lZ lo σ k s):SnVF lo σ (.obj k) (some s)
inductive MsgF (lo:Nat) (σ:aN) (k:Nat) (m:Ms):Prop
 | mk (le:Nat) (ps:List PE) (sv:V) (h0:σ[k]? =some (jJ m le sv)) (l1:lo≤k) (l2:lo≤le) (h1:σ[le]? =some (iH ps)) (h2:dV σ ps) (he:ps.map Prod.snd=m.es) (l3:∀p∈ps,lo≤p.1) (h3:SnVF lo σ sv m.sn)
theorem SnVF.at {lo:Nat} {σ:aN} {v:V} {s:Option Sn} (h:SnVF lo σ v s):SnV σ v s:=by
 induction h with
 | no=>exact .no
 | so a=>exact .so a.at
theorem MsgF.at {lo:Nat} {σ:aN} {k:Nat} {m:Ms} (h:MsgF lo σ k m):nE σ k m:=by
 obtain ⟨le,ps,sv,h0,_,_,h1,h2,he,_,h3⟩:=h
 exact ⟨le,ps,sv,h0,h1,h2,he,h3.at⟩
theorem dV.swap {σ τ:aN} {a b:AO} {ps:List PE} (ha:stl a=false) (h:dV (σ++a::τ) ps):dV (σ++b::τ) ps:=fun p hp=>mT ha _ _ rfl (h p hp)
theorem app1 {σ τ t:aN} {a:AO}:σ++a::τ++t=σ++a::(τ++t):=by rw [aE];rfl
noncomputable def limF (most:Int):Int→Bool→List eN→Nat
 | _,_,[]=>0
 | t,any,e::r=>if any=true∧most < t+(e.enc.length:Nat) then 0 else 1+limF most (t+(e.enc.length:Nat)) true r
theorem get_in {α:Type} {l:List α} {i:Nat} {a:α} (h:l[i]? =some a):i < l.length:=(aX.mp h).1
noncomputable def cpM (m:Ms) (c:Nat):Ms:=⟨m.k,m.to,m.fr,m.tm,m.lt,m.ix,c,0,false,[],none,[]⟩
section
variable {d:Nat} {σ τ:aN} {Q:V→aN→Prop} {X:Ex→aN→Prop} {i:Nat}
theorem mc_fin {m:Ms} {le le':Nat} {sv sv':V} {nps:List PE} (h0:σ[i]? =some (jJ m le sv)) (l':σ.length≤le') (g1:(σ++jJ (cpM m m.cm) le' sv'::τ)[le']? =some (iH nps)) (g2:dV (σ++jJ (cpM m m.cm) le' sv'::τ) nps) (ge:nps.map Prod.snd=m.es) (gl:∀p∈nps,σ.length≤p.1) (g3:SnVF σ.length (σ++jJ (cpM m m.cm) le' sv'::τ) sv' m.sn)
  (h:∀σ' k,σ <+:σ'→MsgF σ.length σ' k m→Q (.obj k) σ'):wpSs (wpCall (d+4)) (b_Message_copy.tl 6) [some (.obj i),some (.obj σ.length)] (σ++jJ (cpM m m.cm) le' sv'::τ) (mV Q) (exK X):=by
 refine sAt (Ev.run (a9 (aB rfl) (cL h0) rfl) (jR (aB rfl) bB rfl dT (sAt (Ev.run (a9 (aB rfl) (cL h0) rfl) (jR (aB rfl) bB rfl dT (sAt (Ev.run (a9 (aB rfl) (cL h0) rfl) (jR (aB rfl) bB rfl dT (sR (Ev.run (aB rfl) ?_))))))))))
 refine h _ _ (aW _ _) ⟨le',nps,sv',bB,bD _,l',mT rfl _ _ rfl g1,g2.swap rfl,ge,gl,?_⟩
 generalize m.sn=sn0 at g3 ⊢
 cases g3 with
 | no=>exact .no
 | so a=>exact .so (a.imp fun _ _ _ ho e=>mT rfl _ _ ho e)
theorem c_Message_copy {m:Ms} (hk:∀s,m.sn=some s→s.Ok) (hn:m.es.length≤100) (hm:nE σ i m) (h:∀σ' k,σ <+:σ'→MsgF σ.length σ' k m→Q (.obj k) σ'):wpCall (d+5) .Message_copy [.obj i] σ Q X:=by
 obtain ⟨le,ps,sv,h0,h1,h2,he,h3⟩:=hm
 refine ent [some (.obj i),none] rfl rfl ?_
 refine sA (eQ (aD (a9 (aB rfl) h0 rfl) (aD (a9 (aB rfl) h0 rfl) (aD (a9 (aB rfl) h0 rfl) (aD (a9 (aB rfl) h0 rfl) aG)))) ?_)
 refine m8 (nq ?_)
 refine sAt (Ev.run (a9 (aB rfl) (cL h0) rfl) (jR (aB rfl) bB rfl dT (sAt (Ev.run (a9 (aB rfl) (cL h0) rfl) (jR (aB rfl) bB rfl dT (sAt (eC rfl (Ev.run (a9 (aB rfl) (cL h0) rfl) ?_))))))))
 refine pCoG (f:=obP) (xs:=ps) (fun a c acc σ'=>∃(nps:List PE) (τ':aN),σ'=σ++jJ (cpM m 0) (σ.length+1) .none::τ'∧acc=nps.map obP∧nps.map Prod.snd=a.map Prod.snd∧dV σ' nps∧∀p∈nps,σ.length≤p.1) ⟨[],_,rfl,rfl,rfl,fT,fT⟩ (fun a c acc s hI=>?_) (fun acc s hI=>?_) fun a x c e acc R hR s hI=>⟨[some (obP x)],rfl,?_⟩
 ·obtain ⟨_,_,rfl,_⟩:=hI
  exact cL h1
 ·obtain ⟨nps,τ',rfl,rfl,ge,g2,gl⟩:=hI
  have ge:=ge.trans he
  have hl:(nps.map obP).length≤lim:=by
   rw [←ge,aK] at hn
   rw [aK]
   exact aA hn (LE rfl)
  refine ⟨hl,?_⟩
  have l':σ.length≤(σ++jJ (cpM m 0) (σ.length+1) .none::τ').length:=(aW _ _).length_le
  have g1:(σ++jJ (cpM m 0) (σ.length+1) .none::τ'++[iH nps])[(σ++jJ (cpM m 0) (σ.length+1) .none::τ').length]? =some (iH nps):=aQ
  have g2:=g2.mono (aW _ [iH nps])
  rw [app1] at g1 g2 ⊢
  generalize (σ++jJ (cpM m 0) (σ.length+1) .none::τ').length=le' at l' g1 g2 ⊢
  generalize τ'++[iH nps]=τ1 at g1 g2 ⊢
  refine jR (aB rfl) bB rfl dT (sAt (Ev.run (a9 (aB rfl) (cL h0) rfl) (jR (aB rfl) bB rfl dT ?_)))
  have g1:(σ++jJ (cpM m m.cm) le' .none::τ1)[le']? =some (iH nps):=mT rfl _ _ rfl g1
  have g2:dV (σ++jJ (cpM m m.cm) le' .none::τ1) nps:=g2.swap rfl
  have e0:(σ++jJ (cpM m m.cm) le' .none::τ1)[i]? =some (jJ m le sv):=cL h0
  have fin:=fun {sv':V} {τ:aN} a b g3=>mc_fin (d:=d) (Q:=Q) (X:=X) (sv':=sv') (τ:=τ) h0 l' a b ge gl g3 h
  clear ge gl
  generalize m.sn=sn at h3 fin hk
  induction h3 with
  | no=>exact iV (dH (a9 (aB rfl) (cL h0) rfl) eW fA) (fin g1 g2 .no)
  | so a=>
   refine mU (dH (a9 (aB rfl) (cL h0) rfl) eW c_isnO) ?_
   obtain ⟨kc,a0,a1⟩:=id a
   refine sAt (aZ (a9 (aB rfl) (cL h0) rfl) (cL a0) rfl aG ?_)
   refine c_Snapshot_copyF (hk _ rfl) (a.mono (aW _ _)) fun s5 k5 p5 l5 f5=>?_
   obtain ⟨t5,rfl⟩:=p5
   have g1:=cL (r:=t5) g1
   have g2:=g2.mono (aW _ t5)
   rw [app1] at f5 g1 g2 ⊢
   refine jR (aB rfl) bB rfl dT (s0q ?_)
   exact fin (mT rfl _ _ rfl g1) (g2.swap rfl) (.so ((f5.low (aW _ _).length_le).imp fun _ _ _ ho e=>mT rfl _ _ ho e))
 ·obtain ⟨nps,τ',rfl,rfl,ge,g2,gl⟩:=hI
  have hx:=h2 x (e▸a8 _ (.head _))
  refine aZ (aB rfl) (cL hx) rfl aG ?_
  refine c_Entry_copy (cL hx) (hR _ _ ⟨nps++[(_,x.2)],τ'++[x.2.o],app1,by rw [bI];rfl,by rw [bI,bI,ge];rfl,?_,all_snoc gl (aW _ _).length_le⟩)
  exact all_snoc (g2.mono (aW _ _)) aQ
theorem c_limit_size {ps:List PE} {most:Nat} (hok:∀p∈ps,p.2.Ok) (hn:ps.length≤100) (h1:σ[i]? =some (iH ps)) (h2:dV σ ps) (h:∀σ' k,σ <+:σ'→σ'[k]? =some (iH (ps.take (limF most 0 false (ps.map Prod.snd))))→Q (.obj k) σ'):wpCall (d+3) .limit_size [.obj i,.int most] σ Q X:=by
 refine ent [some (.obj i),some (.int most),none,none,none] rfl rfl ?_
 refine sA (Ev.run aH (sA (eA aG rfl (sF rfl (Ev.run (aB rfl) ?_)))))
 have fin:∀{m2 m4:Option V} {σ':aN} {kp:List PE},σ <+:σ'→σ'[σ.length]? =some (iH kp)→kp=ps.take (limF most 0 false (ps.map Prod.snd))→wpSs (wpCall (d+2)) (.cons (.sR (.loc 3)) .nil) [some (.obj i),some (.int most),m2,some (.obj σ.length),m4] σ' (mV Q) (exK X):=fun p g e=>sR ((aB rfl).run (h _ _ p (by rw [g,e])))
 refine pFo (f:=obP) (xs:=ps) (fun a c mm σ'=>∃(t:Int) (m4:Option V),mm=[some (.obj i),some (.int most),some (.int t),some (.obj σ.length),m4]∧σ <+:σ'∧σ'[σ.length]? =some (iH a)∧limF most 0 false (ps.map Prod.snd)=a.length+limF most t (!a.isEmpty) (c.map Prod.snd)) ⟨0,none,rfl,aW _ _,aQ,(fL _).symm⟩ (fun a c mm σ' hI=>?_) (fun mm σ' hI=>?_) fun a x c e R hR mm σ' hI=>?_
 ·obtain ⟨_,_,_,p,_⟩:=hI
  exact bZ p h1
 ·obtain ⟨t,m4,rfl,p,g,e4⟩:=hI
  exact fin p g (by rw [e4];exact List.take_length.symm)
 ·obtain ⟨t,m4,rfl,p,g,e4⟩:=hI
  have hm:x∈ps:=e▸a8 _ (.head _)
  have hx:=bZ p (h2 x hm)
  have la:a.length < 100:=aJ (by rw [←e,aF,cK];exact Nat.lt_add_of_pos_right (fM _)) hn
  have e4:_=a.length+(if (!a.isEmpty)=true∧(most:Int) < t+(x.2.enc.length:Nat) then 0 else 1+limF most (t+(x.2.enc.length:Nat)) true (c.map Prod.snd)):=e4
  refine bd rfl ?_
  refine sGc rfl (aZ (aB rfl) hx rfl aG ?_)
  refine c_Entry_size (hok x hm) hx ?_
  refine b_add.run ?_
  have go:¬((!a.isEmpty)=true∧(most:Int) < t+(x.2.enc.length:Nat))→wpSs (wpCall (d+2)) (.cons (.sE (.meth (.loc 3) .append (.cons (.loc 4) .nil))) .nil) [some (.obj i),some (.int most),some (.int (t+(x.2.enc.length:Nat))),some (.obj σ.length),some (obP x)] σ' (lpK R (o8 (wpCall (d+2)) (.cons (.sR (.loc 3)) .nil) (mV Q) (exK X))) (exK X):=by
   intro hc
   rw [if_neg hc] at e4
   have hz:(a.map obP).length < lim:=by rw [aK];exact dD la (LE rfl)
   refine sE (e_app1 (aB rfl) g (aB rfl) hz rfl (s0 ?_))
   refine hR _ _ ⟨_,some (obP x),rfl,o9 p (bD _),(nU g).trans (by unfold iH;rw [bI];rfl),?_⟩
   have:(!(a++[x]).isEmpty)=true:=by cases a <;> rfl
   rw [e4,this,len1,c4]
  cases a with
  | nil=>exact iV (t_anf (t_loT rfl g rfl)) (go fun z=>nomatch z.1)
  | cons y a=>
   by_cases q:(most:Int) < t+(x.2.enc.length:Nat)
   ·refine mU (i8 (t_loT rfl g rfl) (dH (aB rfl) (aB rfl) (eS (decide_eq_true q)))) (sB (fin p g ?_))
    rw [e4,if_pos ⟨rfl,q⟩,Nat.add_zero,←e,oN]
    rfl
   ·exact iV (i8 (t_loT rfl g rfl) (dH (aB rfl) (aB rfl) (eS (decide_eq_false q)))) (go fun z=>q z.2)
end
end
section
noncomputable def lM {α:Type} (p:Except Ex α):Prop:=∃x,p=.error x
noncomputable def Good {α:Type} (p:List Nat→Except Ex (α×List Nat)) (u:List Nat) (v:α):Prop:=(∀r,p (u++r)=.ok (v,r))∧∀w,w <+:u→w≠u→lM (p w)
noncomputable def fU {β:Type} (F:List Nat→Except Ex β) (u:List Nat) (v:β):Prop:=F u=.ok v∧(∀w,w <+:u→w≠u→lM (F w))∧∀y,lM (F (u++[y]))
theorem Good.ok {α:Type} {p:List Nat→Except Ex (α×List Nat)} {u:List Nat} {v:α} (h:Good p u v):∀r,p (u++r)=.ok (v,r):=h.1
theorem Good.sh {α:Type} {p:List Nat→Except Ex (α×List Nat)} {u:List Nat} {v:α} (h:Good p u v):∀w,w <+:u→w≠u→lM (p w):=h.2
theorem fU.ok {β:Type} {F:List Nat→Except Ex β} {u:List Nat} {v:β} (h:fU F u v):F u=.ok v:=h.1
theorem fU.sh {β:Type} {F:List Nat→Except Ex β} {u:List Nat} {v:β} (h:fU F u v):∀w,w <+:u→w≠u→lM (F w):=h.2.1
theorem fU.lg {β:Type} {F:List Nat→Except Ex β} {u:List Nat} {v:β} (h:fU F u v):∀y,lM (F (u++[y])):=h.2.2
theorem kU {w u v:List Nat} (h:w <+:u++v):(w <+:u∧w≠u)∨∃w',w=u++w'∧w' <+:v:=by
 rcases List.prefix_or_prefix_of_prefix h (d8 u v) with h1 | ⟨t,rfl⟩
 ·by_cases q:w=u
  ·exact .inr ⟨[],by rw [bF];exact q,List.nil_prefix⟩
  ·exact .inl ⟨h1,q⟩
 ·exact .inr ⟨t,rfl,(List.prefix_append_right_inj u).mp h⟩
section
variable {α β:Type} {p:List Nat→Except Ex (α×List Nat)} {u1 u2 u r w:List Nat} {a:α}
theorem bad_x {x:Ex}:lM (.error x:Except Ex α):=⟨x,rfl⟩
theorem lI {p:Except Ex α} {f:α→Except Ex β} (h:lM p):lM (bnd p f):=by obtain ⟨x,rfl⟩:=h;exact bad_x
theorem bad_k {p:Except Ex α} {f:α→Except Ex β} (h:p=.ok a) (k:lM (f a)):lM (bnd p f):=by subst h;exact k
theorem bad_t {c:Prop} [Decidable c] {x:Ex} {q:Except Ex α} (h:c):lM (if c then .error x else q):=⟨x,if_pos h⟩
theorem bad_f {c:Prop} [Decidable c] {x:Ex} {q:Except Ex α} (h:¬c→lM q):lM (if c then .error x else q):=by
 by_cases z:c
 ·exact bad_t z
 ·rw [if_neg z];exact h z
theorem Good.bad {f:α×List Nat→Except Ex β} (h:Good p u a) (k:lM (f (a,r))):lM (bnd (p (u++r)) f):=bad_k (h.ok r) k
theorem bnd_eq {p:Except Ex α} {f:α→Except Ex β} {x:Except Ex β} (h:p=.ok a) (k:f a=x):bnd p f=x:=by subst h;exact k
theorem Good.eq {f:α×List Nat→Except Ex β} {x:Except Ex β} (h:Good p u a) (k:f (a,r)=x):bnd (p (u++r)) f=x:=bnd_eq (h.ok r) k
theorem jA {b:β} {q:α×List Nat→Except Ex (β×List Nat)} (h1:Good p u1 a) (h2:Good (fun r=>q (a,r)) u2 b):Good (fun r=>bnd (p r) q) (u1++u2) b:=by
 refine ⟨fun r=>?_,fun w hw hn=>?_⟩
 ·rw [aE];exact h1.eq (h2.ok r)
 ·rcases kU hw with ⟨a1,a2⟩ | ⟨w',rfl,a3⟩
  ·exact lI (h1.sh w a1 a2)
  ·exact h1.bad (h2.sh w' a3 fun z=>hn (congrArg _ z))
theorem b9 {b:β} {q:α×List Nat→Except Ex β} (h1:Good p u1 a) (h2:fU (fun r=>q (a,r)) u2 b):fU (fun r=>bnd (p r) q) (u1++u2) b:=by
 refine ⟨h1.eq h2.ok,fun w hw hn=>?_,fun y=>?_⟩
 ·rcases kU hw with ⟨a1,a2⟩ | ⟨w',rfl,a3⟩
  ·exact lI (h1.sh w a1 a2)
  ·exact h1.bad (h2.sh w' a3 fun z=>hn (congrArg _ z))
 ·rw [aE];exact h1.bad (h2.lg y)
theorem pD {f:List Nat→Except Ex (α×List Nat)} (h:∀r,f r=.ok (a,r)):Good f [] a:=
 ⟨h,fun w hw hn=>absurd (List.prefix_nil.mp hw) hn⟩
theorem good_else {c:Prop} [Decidable c] {f g:List Nat→Except Ex (α×List Nat)} (h:¬c) (q:Good g u a):Good (fun r=>if c then f r else g r) u a:=by
 rw [show (fun r=>if c then f r else g r)=g from funext fun r=>if_neg h];exact q
theorem o6 {c:Prop} [Decidable c] {f g:List Nat→Except Ex α} (h:¬c) (q:fU g u a):fU (fun r=>if c then f r else g r) u a:=by
 rw [show (fun r=>if c then f r else g r)=g from funext fun r=>if_neg h];exact q
theorem whole_end {b:β}:fU (fun r=>bnd (pd r) fun _=>.ok b) [] b:=
 ⟨rfl,fun w hw hn=>absurd (List.prefix_nil.mp hw) hn,fun y=>⟨.Corrupt,rfl⟩⟩
theorem iD {f:α→β} (h:Good p u a):fU (fun r=>bnd (p r) fun x=>bnd (pd x.2) fun _=>.ok (f x.1)) u (f a):=by
 have:=b9 (q:=fun x=>bnd (pd x.2) fun _=>Except.ok (f x.1)) h whole_end
 rwa [bF] at this
theorem good_last {f:α→β} (h:Good p u a):Good (fun r=>bnd (p r) fun x=>.ok (f x.1,x.2)) u (f a):=by
 have:=jA (q:=fun x=>Except.ok (f x.1,x.2)) h (pD (a:=f a) fun r=>rfl)
 rwa [bF] at this
theorem All.bad {p:Except Ex α} {A:α→Prop} (h:lM p):All p A:=fun a e=>by obtain ⟨x,rfl⟩:=h;exact eok e
theorem All.ok {p:Except Ex α} {A:α→Prop} (h:p=.ok a) (k:A a):All p A:=fun b e=>by
 subst h;obtain rfl:=Except.ok.inj e;exact k
theorem Good.all {A:α×List Nat→Prop} (h:Good p u a) (hw:w <+:u++r) (hf:∀w',w' <+:r→A (a,w')):All (p w) A:=by
 rcases kU hw with ⟨a1,a2⟩ | ⟨w',rfl,a3⟩
 ·exact .bad (h.sh w a1 a2)
 ·exact .ok (h.ok _) (hf w' a3)
end
theorem vdec_groups {most:Nat}:∀{k n sh acc:Nat} {r:List Nat},n < 128 ^ (k+1)→acc+n*2 ^ sh≤most→vdec most (k+1) (groups n++r) sh acc=.ok (acc+n*2 ^ sh,r):=by
 intro k
 have small:∀{k n sh acc:Nat} {r:List Nat},n < 128→acc+n*2 ^ sh≤most→vdec most (k+1) (groups n++r) sh acc=.ok (acc+n*2 ^ sh,r):=fun {k n sh acc r} q hm=>by
  rw [gD q]
  show (if n < 128 then (if most < acc+n % 128*2 ^ sh then _ else _) else _)=_
  rw [if_pos q,hK q,if_neg (bK.mpr hm)];rfl
 induction k with
 | zero=>exact fun h hm=>small h hm
 | succ k ih=>
  intro n sh acc r h hm
  by_cases q:n < 128
  ·exact small q hm
  ·rw [jS q]
   show (if n % 128+128 < 128 then (if most < acc+(n % 128+128) % 128*2 ^ sh then .error .Corrupt else .ok (acc+(n % 128+128) % 128*2 ^ sh,groups (n / 128)++r)) else vdec most (k+1) (groups (n / 128)++r) (sh+7) (acc+(n % 128+128) % 128*2 ^ sh))=_
   have e2:acc+n % 128*2 ^ sh+n / 128*2 ^ (sh+7)=acc+n*2 ^ sh:=by
    have e4:n*2 ^ sh=(n % 128)*2 ^ sh+(n / 128)*2 ^ (sh+7):=by
     conv=>lhs;rw [←Nat.mod_add_div n 128,Nat.add_mul]
     rw [Nat.pow_add,eX 128,Nat.mul_assoc,eX (2 ^ sh)]
    rw [e4,c4]
   rw [if_neg (bK.mpr (eK _ _)),Nat.add_mod_right,Nat.mod_mod,ih (jN (by rw [Nat.pow_succ,eX] at h;exact h)) (by rw [e2];exact hm),e2]
theorem vdec_short {most:Nat}:∀{k n sh acc:Nat} {w:List Nat},w <+:groups n→w≠groups n→lM (vdec most k w sh acc)
 | 0,_,_,_,_,_,_=>bad_x
 | _+1,_,_,_,[],_,_=>bad_x
 | k+1,n,sh,acc,o::w,h,hn=>by
  by_cases q:n < 128
  ·rw [gD q] at h hn
   obtain ⟨e,h'⟩:=mK.mp h
   exact absurd (by rw [e,List.prefix_nil.mp h']) hn
  ·rw [jS q] at h hn
   obtain ⟨rfl,h'⟩:=mK.mp h
   show lM (if n % 128+128 < 128 then (if most < acc+(n % 128+128) % 128*2 ^ sh then .error .Corrupt else .ok (acc+(n % 128+128) % 128*2 ^ sh,w)) else vdec most k w (sh+7) _)
   rw [if_neg (bK.mpr (eK _ _))]
   exact vdec_short h' fun z=>hn (congrArg _ z)
theorem good_v {most k n:Nat} (h:n≤most) (q:n < 128 ^ (k+1)):Good (fun r=>vdec most (k+1) r 0 0) (groups n) n:=
 ⟨fun r=>by
  have e:0+n*2 ^ 0=n:=by rw [fL,Nat.pow_zero,Nat.mul_one]
  have:=vdec_groups (sh:=0) (acc:=0) (r:=r) q (by rw [e];exact h)
  rwa [e] at this,fun w hw hn=>vdec_short hw hn⟩
theorem bR {n:Nat} (h:n≤18446744073709551615):Good pv (groups n) n:=good_v (k:=9) h (aS h (by decide))
theorem good_pv32 {n:Nat} (h:n≤4294967295):Good pv32 (groups n) n:=good_v (k:=4) h (aS h (by decide))
theorem gA {b:List Nat} {L:Nat} (h:b.length≤L) (q:Nat.ble L 4294967295=true):Good pl (lenB b) b:=by
 have g:=good_pv32 (aA h (LE q))
 refine ⟨fun r=>?_,fun w hw hn=>?_⟩
 ·unfold lenB
  rw [aE]
  refine g.eq ?_
  rw [if_neg (by rw [aF];exact bK.mpr (aU _ _)),List.take_left,List.drop_left]
 ·rcases kU hw with ⟨a1,a2⟩ | ⟨w',rfl,a3⟩
  ·exact lI (g.sh w a1 a2)
  ·refine g.bad (bad_t (Nat.lt_of_not_le fun q=>?_))
   exact hn (congrArg _ (List.IsPrefix.eq_of_length_le a3 q))
theorem one_pre {w:List Nat} {n:Nat} (hw:w <+:[n]) (hn:w≠[n]):w=[]:=by
 induction w with
 | nil=>rfl
 | cons o w=>
  obtain ⟨e,h⟩:=mK.mp hw
  exact absurd (by rw [e,List.prefix_nil.mp h]) hn
theorem lB {f:Bool}:Good pf [f.toNat] f:=⟨fun r=>by cases f <;> rfl,fun w hw hn=>by rw [one_pre hw hn];exact bad_x⟩
theorem good_po {n:Nat}:Good po [n] n:=⟨fun r=>rfl,fun w hw hn=>by rw [one_pre hw hn];exact bad_x⟩
theorem good_pmaybe {o:Option (List Nat)} (h:lK 1000 o):Good pmaybe (jL o) o:=by
 induction o with
 | none=>exact jA (u1:=[0]) (u2:=[]) (lB (f:=false)) (pD fun r=>rfl)
 | some b=>exact jA (u1:=[1]) (lB (f:=true)) (good_last (f:=some) (gA (h b rfl) rfl))
section
variable {β:Type} {u2:List Nat} {n:Nat}
theorem pcount_of (h:n≤18446744073709551615) {r:List Nat} (l:n≤r.length):pcount (groups n++r)=.ok (n,r):=(bR h).eq (if_neg (bK.mpr l))
theorem pA (h:n≤18446744073709551615) {w:List Nat} (hw:w <+:groups n) (hn:w≠groups n):lM (pcount w):=lI ((bR h).sh w hw hn)
theorem app_le {a b:List Nat} (h:n≤a.length):n≤(a++b).length:=aA h (d8 a b).length_le
theorem mH {q:Nat×List Nat→Except Ex β} (h:n≤18446744073709551615) {r:List Nat} (k:n≤r.length→lM (q (n,r))):lM (bnd (pcount (groups n++r)) q):=by
 rcases Nat.lt_or_ge r.length n with z | z
 ·exact lI ((bR h).bad (bad_t z))
 ·exact bad_k (pcount_of h z) (k z)
theorem good_count {b:β} {q:Nat×List Nat→Except Ex (β×List Nat)} (h:n≤18446744073709551615) (hl:n≤u2.length) (h2:Good (fun r=>q (n,r)) u2 b):Good (fun r=>bnd (pcount r) q) (groups n++u2) b:=by
 refine ⟨fun r=>?_,fun w hw hn=>?_⟩
 ·rw [aE];exact bnd_eq (pcount_of h (app_le hl)) (h2.ok r)
 ·rcases kU hw with ⟨a1,a2⟩ | ⟨w',rfl,a3⟩
  ·exact lI (pA h a1 a2)
  ·exact mH h fun _=>h2.sh w' a3 fun z=>hn (congrArg _ z)
theorem whole_count {b:β} {q:Nat×List Nat→Except Ex β} (h:n≤18446744073709551615) (hl:n≤u2.length) (h2:fU (fun r=>q (n,r)) u2 b):fU (fun r=>bnd (pcount r) q) (groups n++u2) b:=by
 refine ⟨bnd_eq (pcount_of h hl) h2.ok,fun w hw hn=>?_,fun y=>?_⟩
 ·rcases kU hw with ⟨a1,a2⟩ | ⟨w',rfl,a3⟩
  ·exact lI (pA h a1 a2)
  ·exact mH h fun _=>h2.sh w' a3 fun z=>hn (congrArg _ z)
 ·rw [aE];exact mH h fun _=>h2.lg y
theorem all_count {w r:List Nat} {A:Nat×List Nat→Prop} (h:n≤18446744073709551615) (hw:w <+:groups n++r) (hf:∀w',w' <+:r→A (n,w')):All (pcount w) A:=by
 rcases kU hw with ⟨a1,a2⟩ | ⟨w',rfl,a3⟩
 ·exact .bad (pA h a1 a2)
 ·rcases Nat.lt_or_ge w'.length n with z | z
  ·exact .bad ((bR h).bad (bad_t z))
  ·exact .ok (pcount_of h z) (hf w' a3)
end
theorem flat_ge {α:Type} {f:α→List Nat} (hf:∀a,f a≠[]):∀l:List α,l.length≤((l.map f).flatten).length
 | []=>bD _
 | a::r=>by
  rw [kI,lV,aF,cK,eY]
  exact fY (kC.mpr (hf a)) (flat_ge hf r)
noncomputable def kT:List Nat→List Nat→Bool
 | _,[]=>true
 | acc,x::r=>!kV acc x && kT (acc++[x]) r
theorem good_pidsN:∀{ids acc:List Nat},(∀x∈ids,x≤18446744073709551615)→kT acc ids=true→Good (pidsN ids.length acc) ((ids.map groups).flatten) (acc++ids)
 | [],acc,_,_=>by rw [bF];exact pD fun r=>rfl
 | x::ids,acc,h,hr=>by
  obtain ⟨h1,h2⟩:=fD.mp (show (!kV acc x && kT (acc++[x]) ids)=true from hr)
  have:=good_pidsN (ids:=ids) (acc:=acc++[x]) (fun y hy=>h y (.tail _ hy)) h2
  rw [aE] at this
  exact jA (bR (h x (.head _))) (good_else (Bool.not_eq_true _▸(Bool.not_eq_true' _).mp h1:¬kV acc x=true) this)
theorem bad_pidsN:∀{ids acc r:List Nat},(∀x∈ids,x≤18446744073709551615)→kT acc ids=false→lM (pidsN ids.length acc ((ids.map groups).flatten++r))
 | [],acc,_,_,h=>nomatch h
 | x::ids,acc,r,h,hr=>by
  have hr:(!kV acc x && kT (acc++[x]) ids)=false:=hr
  rw [kI,lV,aE]
  refine (bR (h x (.head _))).bad (f:=fun p=>if kV acc p.1=true then .error .Corrupt else pidsN ids.length (acc++[p.1]) p.2) (bad_f fun q=>bad_pidsN (fun y hy=>h y (.tail _ hy)) ?_)
  have q:kV acc x=false:=(Bool.not_eq_true _).mp q
  rw [q] at hr;exact hr
noncomputable def IdsW (ids:List Nat):Prop:=ids.length≤8∧∀x∈ids,x≤18446744073709551615
theorem IdsW.n {ids:List Nat} (h:IdsW ids):ids.length≤18446744073709551615:=aA h.1 (by decide)
theorem good_ids {ids:List Nat} (h:IdsW ids) (hr:kT [] ids=true):Good pids (eM ids) ids:=good_count (q:=fun p=>pidsN p.1 [] p.2) h.n (flat_ge gT ids) (good_pidsN h.2 hr)
theorem bad_ids {ids:List Nat} (h:IdsW ids) (hr:kT [] ids=false) {r:List Nat}:lM (pids (eM ids++r)):=by
 unfold eM
 rw [aE]
 exact mH h.n fun _=>bad_pidsN h.2 hr
theorem encC_r {v l o n:List Nat} {fl:Nat}:encC v l o n fl=eM v++(eM l++(eM o++(eM n++[fl]))):=by
 unfold encC;rw [aE,aE,aE]
theorem whole_conf {v l o n:List Nat} {f:Bool} (h1:IdsW v) (h2:IdsW l) (h3:IdsW o) (h4:IdsW n) (r1:kT [] v=true) (r2:kT [] l=true) (r3:kT [] o=true) (r4:kT [] n=true):fU nZ (encC v l o n f.toNat) ⟨v,l,o,n,f⟩:=by
 rw [encC_r]
 exact b9 (good_ids h1 r1) (b9 (good_ids h2 r2) (b9 (good_ids h3 r3) (b9 (good_ids h4 r4) (iD (f:=fun f=>Cf.mk v l o n f) lB))))
theorem bad_pf {fl:Nat} {r:List Nat} (h:1 < fl):lM (pf (fl::r)):=bad_t h
theorem bad_idsc {β:Type} {ids r:List Nat} {f:List Nat×List Nat→Except Ex β} (h:IdsW ids) (k:kT [] ids=true→lM (f (ids,r))):lM (bnd (pids (eM ids++r)) f):=by
 cases q:kT [] ids with
 | false=>exact lI (bad_ids h q)
 | true=>exact (good_ids h q).bad (k q)
theorem bad_conf {v l o n:List Nat} {fl:Nat} (h1:IdsW v) (h2:IdsW l) (h3:IdsW o) (h4:IdsW n) (hb:¬(kT [] v=true∧kT [] l=true∧kT [] o=true∧kT [] n=true∧fl≤1)):lM (nZ (encC v l o n fl)):=by
 rw [encC_r]
 exact bad_idsc h1 fun q1=>bad_idsc h2 fun q2=>bad_idsc h3 fun q3=>bad_idsc h4 fun q4=>lI (bad_pf (Nat.lt_of_not_le fun z=>hb ⟨q1,q2,q3,q4,z⟩))
theorem eN.enc_r {e:eN}:e.enc=groups e.t++(groups e.i++(groups e.k++lenB e.d)):=by unfold eN.enc;rw [aE,aE]
theorem whole_ent {e:eN} (hk:e.Ok) (h02:e.k=0∨e.k=2):fU dEnt e.enc e:=by
 rw [eN.enc_r]
 exact b9 (bR hk.t) (b9 (bR hk.i) (b9 (bR hk.k) (o6 (show ¬(e.k≠0∧e.k≠2) from fun z=>h02.elim z.1 z.2) (iD (f:=fun x=>eN.mk e.t e.i e.k x) (gA hk.d rfl)))))
theorem bad_ent {e:eN} (hk:e.Ok) (h02:e.k≠0∧e.k≠2):lM (dEnt e.enc):=by
 rw [eN.enc_r]
 exact (bR hk.t).bad ((bR hk.i).bad ((bR hk.k).bad (bad_t h02)))
structure Cf.Ris (c:Cf):Prop where
 v:kT [] c.v=true
 l:kT [] c.l=true
 o:kT [] c.o=true
 n:kT [] c.n=true
theorem IdsOk.w {ids:List Nat} (h:IdsOk ids):IdsW ids:=⟨h.len,h.le⟩
theorem whole_cf {c:Cf} (h:c.Ok) (r:c.Ris):fU nZ c.enc c:=whole_conf h.v.w h.l.w h.o.w h.n.w r.v r.l r.o r.n
theorem Sn.enc_r {s:Sn}:s.enc=groups s.i++(groups s.t++(lenB s.c.enc++lenB s.d)):=by unfold Sn.enc;rw [aE,aE]
theorem whole_snap {s:Sn} (h:s.Ok) (r:s.c.Ris):fU dSnap s.enc s:=by
 rw [Sn.enc_r]
 refine b9 (bR h.i) (b9 (bR h.t) (b9 (gA (s.c.length h.c) rfl) ?_))
 show fU (fun r=>bnd (nZ s.c.enc) fun cf=>bnd (pl r) _) _ _
 rw [(whole_cf h.c r).ok]
 exact iD (f:=fun x=>Sn.mk s.i s.t s.c x) (gA h.d rfl)
theorem three {n:Nat} (h:n≤3):n≤18446744073709551615:=aA h (by decide)
theorem good_pairs:∀{cs acc:List PN},(∀p∈cs,p.1≤3∧p.2≤18446744073709551615)→Good (jI cs.length acc) (encP cs) (acc++cs)
 | [],acc,_=>by rw [bF];exact pD fun r=>rfl
 | p::cs,acc,h=>by
  obtain ⟨a,b⟩:=h p (.head _)
  have ih:=good_pairs (cs:=cs) (acc:=acc++[p]) fun y hy=>h y (.tail _ hy)
  rw [aE] at ih
  show Good _ ((groups p.1++groups p.2)++encP cs) _
  rw [aE]
  exact jA (bR (three a)) (good_else (bK.mpr a) (jA (q:=fun b=>jI cs.length (acc++[(p.1,b.1)]) b.2) (bR b) ih))
theorem bad_pairs:∀{cs acc:List PN} {r:List Nat},(∀p∈cs,p.1≤18446744073709551615∧p.2≤18446744073709551615)→(∃p∈cs,3 < p.1)→lM (jI cs.length acc (encP cs++r))
 | [],acc,_,_,h=>by obtain ⟨_,h,_⟩:=h;cases h
 | p::cs,acc,r,h,hb=>by
  obtain ⟨a,b⟩:=h p (.head _)
  show lM (jI (cs.length+1) acc (((groups p.1++groups p.2)++encP cs)++r))
  rw [aE,aE]
  refine (bR a).bad (f:=fun a=>if 3 < a.1 then .error .Corrupt else bnd (pv a.2) fun b=>jI cs.length (acc++[(a.1,b.1)]) b.2) (bad_f fun q=>(bR b).bad (f:=fun b=>jI cs.length (acc++[(p.1,b.1)]) b.2) (bad_pairs (fun y hy=>h y (.tail _ hy)) ?_))
  obtain ⟨y,hy,h3⟩:=hb
  rcases bN.mp hy with rfl | hy
  ·exact absurd h3 q
  ·exact ⟨y,hy,h3⟩
theorem fB {a b:List Nat} (h:a≠[]):a++b≠[]:=fun z=>h (List.append_eq_nil_iff.mp z).1
noncomputable def dCh1 (data:List Nat):Except Ex Ch:=bnd (pv data) fun a=>if 2 < a.1 then .error .Corrupt else bnd (pcount a.2) fun n=>bnd (jI n.1 [] n.2) fun p=>bnd (pl p.2) fun c=>bnd (pd c.2) fun _=>.ok ⟨a.1,p.1,c.1⟩
theorem dCh_ne {data:List Nat} (h:data≠[]):dCh data=dCh1 data:=by
 induction data with
 | nil=>exact absurd rfl h
 | cons a r=>rfl
theorem Ch.enc_r {c:Ch}:c.enc=groups c.tr++(groups c.cs.length++(encP c.cs++lenB c.cx)):=by unfold Ch.enc;rw [aE,aE]
theorem encP_ge {c:Ch} {r:List Nat}:c.cs.length≤(encP c.cs++r).length:=app_le (flat_ge (f:=encP1) (fun p=>fB (gT p.1)) c.cs)
theorem whole_ch {c:Ch} (h1:c.tr≤2) (h2:c.cs.length≤100) (h3:∀p∈c.cs,p.1≤3∧p.2≤18446744073709551615) (h4:c.cx.length≤1000):fU dCh1 c.enc c:=by
 rw [Ch.enc_r]
 exact b9 (bR (aA h1 (by decide))) (o6 (bK.mpr h1) (whole_count (aA h2 (by decide)) encP_ge (b9 (good_pairs h3) (iD (f:=fun x=>Ch.mk c.tr c.cs x) (gA h4 rfl)))))
theorem bad_ch {c:Ch} (hk:c.Ok) (hb:2 < c.tr∨∃p∈c.cs,3 < p.1):lM (dCh1 c.enc):=by
 rw [Ch.enc_r]
 exact (bR hk.tr).bad (bad_f fun q=>mH (aA hk.len (by decide)) fun _=>lI (bad_pairs hk.le (hb.resolve_left q)))
theorem encCmd_r {k c n:Nat} {key val:List Nat} {ex:Option (List Nat)}:hG k c n key val ex=groups k++(groups c++(groups n++(lenB key++(lenB val++jL ex)))):=by unfold hG;rw [aE,aE,aE,aE]
theorem whole_cmd {m:Cm} (h1:m.k≤18446744073709551615) (h2:m.c≤18446744073709551615) (h3:m.n≤18446744073709551615) (h4:m.key.length≤1000) (h5:m.val.length≤1000) (h6:lK 1000 m.ex):fU pCmd (hG m.k m.c m.n m.key m.val m.ex) m:=by
 rw [encCmd_r]
 exact b9 (bR h1) (b9 (bR h2) (b9 (bR h3) (b9 (gA h4 rfl) (b9 (gA h5 rfl) (iD (f:=fun x=>Cm.mk m.k m.c m.n m.key m.val x) (good_pmaybe h6))))))
theorem whole_reply {code:Nat} {o:Option (List Nat)} (h1:code≤3) (h6:lK 1000 o):fU dReply (code::jL o) (code,o):=
 b9 (u1:=[code]) good_po (o6 (bK.mpr h1) (iD (f:=fun x=>(code,x)) (good_pmaybe h6)))
theorem sess_r {n fl:Nat} {x:List Nat}:groups n++[fl]++lenB x=groups n++([fl]++lenB x):=aE _ _ _
theorem whole_sess {n:Nat} {f:Bool} {x:List Nat} (h1:n≤18446744073709551615) (h2:x.length≤10000):fU dSess (groups n++[f.toNat]++lenB x) (n,f,x):=by
 rw [sess_r]
 exact b9 (bR h1) (b9 lB (iD (f:=fun c=>(n,f,c)) (gA h2 rfl)))
structure Ms.Fine (m:Ms):Prop extends m.Ok where
 kind:m.k≤20
 k02:∀e∈m.es,e.k=0∨e.k=2
 ris:∀s,m.sn=some s→s.c.Ris
theorem good_ents:∀{es acc:List eN},(∀e∈es,e.Ok)→(∀e∈es,e.k=0∨e.k=2)→Good (entsN es.length acc) ((es.map lenE).flatten) (acc++es)
 | [],acc,_,_=>by rw [bF];exact pD fun r=>rfl
 | e::es,acc,h,h2=>by
  have ih:=good_ents (es:=es) (acc:=acc++[e]) (fun y hy=>h y (.tail _ hy)) fun y hy=>h2 y (.tail _ hy)
  rw [aE] at ih
  have q:=h e (.head _)
  refine jA (gA (e.length q) rfl) ?_
  show Good (fun r=>bnd (dEnt e.enc) fun e'=>entsN es.length (acc++[e']) r) _ _
  rw [(whole_ent q (h2 e (.head _))).ok];exact ih
noncomputable def encSn:Option Sn→List Nat
 | none=>[0]
 | some s=>1::lenB s.enc
noncomputable def nW (fl:Nat) (es:List eN) (tl:List Nat):List Nat:=fl::(groups es.length++((es.map lenE).flatten++tl))
noncomputable def mZ (hd:List Nat) (r:List Nat):List Nat:=match hd with
 | [k,to,fr,tm,lt,ix,cm,hn]=>groups k++(groups to++(groups fr++(groups tm++(groups lt++(groups ix++(groups cm++(groups hn++r)))))))
 | _=>[]
theorem encT_eq {b:List Nat} {sn:Option Sn}:encT b sn=b++encSn sn:=by
 induction sn with
 | none=>rfl
 | some s=>exact aE _ _ _
theorem oX {k to fr tm lt ix cm hn fl:Nat} {es:List eN} {sn:Option Sn} {cx:List Nat}:lQ [k,to,fr,tm,lt,ix,cm,hn] fl es sn cx=mZ [k,to,fr,tm,lt,ix,cm,hn] (nW fl es (encSn sn++lenB cx)):=by
 delta lQ mZ nW
 rw [encT_eq,catL_eq]
 simp only [kI,iS,lV,hU,aE,List.nil_append,List.singleton_append,List.cons_append]
theorem encM1_app {m:Ms} {r t:List Nat}:mZ m.hd r++t=mZ m.hd (r++t):=by
 show groups m.k++(groups m.to++(groups m.fr++(groups m.tm++(groups m.lt++(groups m.ix++(groups m.cm++(groups m.hn++r)))))))++t=groups m.k++(groups m.to++(groups m.fr++(groups m.tm++(groups m.lt++(groups m.ix++(groups m.cm++(groups m.hn++(r++t))))))))
 simp only [aE]
theorem encM2_app {fl:Nat} {es:List eN} {r t:List Nat}:nW fl es r++t=nW fl es (r++t):=by unfold nW;rw [List.cons_append,aE,aE]
theorem Ms.Ok.n {m:Ms} (h:m.Ok):m.es.length≤18446744073709551615:=aA h.len (by decide)
theorem lenE_ne (e:eN):lenE e≠[]:=fB (gT _)
theorem ents_ge {es:List eN} {r:List Nat}:es.length≤((es.map lenE).flatten++r).length:=app_le (flat_ge lenE_ne es)
theorem good_psn {sn:Option Sn} (h:∀s,sn=some s→s.Ok) (r:∀s,sn=some s→s.c.Ris):Good (fun r=>bnd (pf r) fun f=>psn f.1 f.2) (encSn sn) sn:=by
 induction sn with
 | none=>exact jA (u1:=[0]) (u2:=[]) (lB (f:=false)) (pD fun r=>rfl)
 | some s=>
  refine jA (u1:=[1]) (lB (f:=true)) ?_
  have:=jA (q:=fun c=>bnd (dSnap c.1) fun s=>Except.ok (some s,c.2)) (gA (s.length (h s rfl)) rfl) (pD (a:=some s) fun w=>by
   rw [(whole_snap (h s rfl) (r s rfl)).ok];rfl)
  rwa [bF] at this
theorem bnd_as {α β γ:Type} {p:Except Ex α} {f:α→Except Ex β} {g:β→Except Ex γ}:bnd (bnd p f) g=bnd p fun a=>bnd (f a) g:=by cases p <;> rfl
theorem whole_ms {m0:Ms} {es:List eN} {sn:Option Sn} {cx:List Nat} (h:∀s,sn=some s→s.Ok) (r:∀s,sn=some s→s.c.Ris) (hc:cx.length≤1000):fU (dMs m0 es) (encSn sn++lenB cx) (m0.fin es sn cx):=by
 have:=b9 (q:=fun sn=>dMc m0 es sn.1 sn.2) (good_psn h r) (iD (f:=fun x=>m0.fin es sn x) (gA hc rfl))
 have e:(fun r=>bnd (bnd (pf r) fun f=>psn f.1 f.2) fun sn=>dMc m0 es sn.1 sn.2)=dMs m0 es:=funext fun r=>bnd_as
 rwa [e] at this
theorem whole_msg {m:Ms} (h:m.Fine):fU dMsg m.enc m:=by
 refine hide fun Gx hGx=>?_
 obtain ⟨h1,h2,h3,h4,h5,h6,h7,h8⟩:=Ms.h_of h.hd
 refine hGx ?_
 unfold Ms.enc Ms.hd
 rw [oX]
 refine b9 (bR h1) (o6 (bK.mpr h.kind) (b9 (bR h2) (b9 (bR h3) (b9 (bR h4) (b9 (bR h5) (b9 (bR h6) (b9 (bR h7) (b9 (bR h8) (b9 (u1:=[m.rj.toNat]) lB (whole_count h.toOk.n ents_ge (b9 (good_ents h.es h.k02) ?_)))))))))))
 exact whole_ms h.sn h.ris h.cx
theorem bad_kind {k:Nat} (h:k≤18446744073709551615) (q:20 < k) {r:List Nat}:lM (dMsg (groups k++r)):=(bR h).bad (bad_t q)
theorem bad_hd {m:Ms} (h:m.Ok) {r:List Nat} (k:∀{m0:Ms},lM (bnd (pf r) fun rj=>dMe {m0 with rj:=rj.1} rj.2)):lM (dMsg (mZ m.hd r)):=by
 obtain ⟨h1,h2,h3,h4,h5,h6,h7,h8⟩:=Ms.h_of h.hd
 exact (bR h1).bad (bad_f fun _=>(bR h2).bad ((bR h3).bad ((bR h4).bad ((bR h5).bad ((bR h6).bad ((bR h7).bad ((bR h8).bad (k (m0:=⟨m.k,m.to,m.fr,m.tm,m.lt,m.ix,m.cm,m.hn,false,[],none,[]⟩)))))))))
theorem bad_flag {m:Ms} (h:m.Ok) {fl:Nat} {r:List Nat} (q:1 < fl):lM (dMsg (mZ m.hd (fl::r))):=bad_hd h (lI (bad_pf q))
theorem bad_has {m:Ms} (h:m.Fine) {fl:Nat} {b:Bool} {r:List Nat} (q:1 < fl):lM (dMsg (mZ m.hd (nW b.toNat m.es (fl::r)))):=
 bad_hd h.toOk ((lB (f:=b)).bad (mH h.toOk.n fun _=>(good_ents h.es h.k02).bad (lI (bad_pf q))))
theorem sn_good {s:Sn} (h:s.Ok) (r:s.c.Ris):snGood s.enc:=by
 unfold snGood
 rw [Sn.enc_r,(bR h.i).eq rfl]
 rw [(bR h.t).eq rfl]
 rw [(gA (s.c.length h.c) rfl).eq (whole_cf h.c r).ok]
 exact h.c
noncomputable def tlGood (tl:List Nat):Prop:=∀w,w <+:tl→hkS w
theorem tl_sn {sn:Option Sn} (h1:∀s,sn=some s→s.Ok) (h2:∀s,sn=some s→s.c.Ris) {r:List Nat}:tlGood (encSn sn++r):=by
 intro w hw
 induction sn with
 | none=>exact (lB (f:=false)).all (u:=[0]) hw fun w' _ q=>nomatch q
 | some s=>exact (lB (f:=true)).all (u:=[1]) (r:=lenB s.enc++r) hw fun w' hw' _=>(gA (s.length (h1 s rfl)) rfl).all hw' fun w2 _=>sn_good (h1 s rfl) (h2 s rfl)
theorem pf_pre {fl:Nat} {w r:List Nat} {A:Bool×List Nat→Prop} (hw:w <+:fl::r) (hf:fl≤1→∀w',w' <+:r→A (fl==1,w')):All (pf w) A:=by
 cases w with
 | nil=>exact .bad bad_x
 | cons o w=>
  obtain ⟨rfl,h⟩:=mK.mp hw
  rcases Nat.lt_or_ge 1 o with q | q
  ·exact .bad (bad_t q)
  ·exact .ok (if_neg (bK.mpr q)) (hf q w h)
theorem tl_bad {fl:Nat} (h:1 < fl) {r:List Nat}:tlGood (fl::r):=fun _ hw=>pf_pre hw fun q=>absurd h (bK.mpr q)
theorem hk_msg {m:Ms} (h:m.Ok) (h02:∀e∈m.es,e.k=0∨e.k=2) {k fl:Nat} {tl w:List Nat} (hk:k≤18446744073709551615) (ht:tlGood tl) (hw:w <+:mZ (k::m.hd.tail) (nW fl m.es tl)):hkMsg w:=by
 obtain ⟨_,h2,h3,h4,h5,h6,h7,h8⟩:=Ms.h_of h.hd
 exact (bR hk).all hw fun w hw=>(bR h2).all hw fun w hw=>(bR h3).all hw fun w hw=>(bR h4).all hw fun w hw=>(bR h5).all hw fun w hw=>(bR h6).all hw fun w hw=>(bR h7).all hw fun w hw=>(bR h8).all hw fun w hw=>pf_pre hw fun _ w hw=>all_count h.n hw fun w hw=>(good_ents h.es h02).all hw fun w hw=>ht w hw
theorem pcount_cor {r:List Nat}:cH (pcount r):=cH.bnd dK fun _=>cH.ite cor_s fW
theorem pidsN_cor:∀{k:Nat} {acc r:List Nat},cH (pidsN k acc r)
 | 0,_,_=>fW
 | _+1,_,_=>cH.bnd dK fun _=>cH.ite cor_c pidsN_cor
theorem pids_cor {r:List Nat}:cH (pids r):=cH.bnd pcount_cor fun _=>pidsN_cor
theorem dEnt_cor {r:List Nat}:cH (dEnt r):=cH.bnd dK fun _=>cH.bnd dK fun _=>cH.bnd dK fun _=>cH.ite cor_c (cH.bnd mX fun _=>cH.bnd pd_cor fun _=>fW)
theorem dConf_cor {r:List Nat}:cH (nZ r):=cH.bnd pids_cor fun _=>cH.bnd pids_cor fun _=>cH.bnd pids_cor fun _=>cH.bnd pids_cor fun _=>cH.bnd pf_cor fun _=>cH.bnd pd_cor fun _=>fW
theorem pairsN_cor:∀{k:Nat} {acc:List PN} {r:List Nat},cH (jI k acc r)
 | 0,_,_=>fW
 | _+1,_,_=>cH.bnd dK fun _=>cH.ite cor_c (cH.bnd dK fun _=>pairsN_cor)
theorem dCh1_cor {r:List Nat}:cH (dCh1 r):=cH.bnd dK fun _=>cH.ite cor_c (cH.bnd pcount_cor fun _=>cH.bnd pairsN_cor fun _=>cH.bnd mX fun _=>cH.bnd pd_cor fun _=>fW)
theorem dCh_cor {r:List Nat}:cH (dCh r):=cH.ite fW dCh1_cor
theorem dSnap_cor {r:List Nat}:cH (dSnap r):=cH.bnd dK fun _=>cH.bnd dK fun _=>cH.bnd mX fun _=>cH.bnd dConf_cor fun _=>cH.bnd mX fun _=>cH.bnd pd_cor fun _=>fW
theorem entsN_cor:∀{k:Nat} {acc:List eN} {r:List Nat},cH (entsN k acc r)
 | 0,_,_=>fW
 | _+1,_,_=>cH.bnd mX fun _=>cH.bnd dEnt_cor fun _=>entsN_cor
theorem psn_cor {f:Bool} {r:List Nat}:cH (psn f r):=cH.ite (cH.bnd mX fun _=>cH.bnd dSnap_cor fun _=>fW) fW
theorem dMe_cor {m:Ms} {r:List Nat}:cH (dMe m r):=cH.bnd pcount_cor fun _=>cH.bnd entsN_cor fun _=>cH.bnd pf_cor fun _=>cH.bnd psn_cor fun _=>cH.bnd mX fun _=>cH.bnd pd_cor fun _=>fW
theorem dMsg_cor {r:List Nat}:cH (dMsg r):=cH.bnd dK fun _=>cH.ite cor_c (cH.bnd dK fun _=>cH.bnd dK fun _=>cH.bnd dK fun _=>cH.bnd dK fun _=>cH.bnd dK fun _=>cH.bnd dK fun _=>cH.bnd dK fun _=>cH.bnd pf_cor fun _=>dMe_cor)
theorem dReply_cor {r:List Nat}:cH (dReply r):=cH.bnd po_cor fun _=>cH.ite cor_c (cH.bnd pmaybe_cor fun _=>cH.bnd pd_cor fun _=>fW)
theorem dSess_cor {r:List Nat}:cH (dSess r):=cH.bnd dK fun _=>cH.bnd pf_cor fun _=>cH.bnd mX fun _=>cH.bnd pd_cor fun _=>fW
noncomputable def eE (l:List Nat):Prop:=∀x∈l,x < 256
theorem eE.app {a b:List Nat} (h:eE a) (k:eE b):eE (a++b):=all_a h k
theorem eE.one {n:Nat} (h:n < 256):eE [n]:=d6 h fT
theorem eE.cons {n:Nat} {l:List Nat} (h:n < 256) (k:eE l):eE (n::l):=d6 h k
theorem grp_256:∀{f n:Nat},n≤f→eE (grp f n)
 | 0,n,h=>by rw [Nat.le_zero.mp h];exact .one (by decide)
 | f+1,n,h=>by
  by_cases q:n < 128
  ·rw [grp_lt q];exact .one (dD q (by decide))
  ·rw [grp_ge q]
   exact .cons (Nat.add_lt_add_right (fX n (by decide)) 128) (grp_256 (bE (aJ (lt128 q) h)))
theorem hJ (n:Nat):eE (groups n):=grp_256 (bD n)
theorem o0 {α:Type} {f:α→List Nat}:∀{l:List α},(∀a∈l,eE (f a))→eE ((l.map f).flatten)
 | [],_=>fT
 | a::r,h=>eE.app (h a (.head _)) (o0 fun y hy=>h y (.tail _ hy))
theorem iQ {b:List Nat} (h:eE b):eE (lenB b):=(hJ _).app h
theorem b256_ids (ids:List Nat):eE (eM ids):=(hJ _).app (o0 fun a _=>hJ a)
theorem b256_conf {v l o n:List Nat} {fl:Nat} (h:fl < 256):eE (encC v l o n fl):=((((b256_ids v).app (b256_ids l)).app (b256_ids o)).app (b256_ids n)).app (.one h)
theorem b256_ent {e:eN} (h:eE e.d):eE e.enc:=(((hJ _).app (hJ _)).app (hJ _)).app (iQ h)
theorem b256_snap {s:Sn} (h:eE s.d):eE s.enc:=(((hJ _).app (hJ _)).app (iQ (b256_conf (hZ s.c.a)))).app (iQ h)
theorem b256_opt {o:Option (List Nat)} (h:∀b,o=some b→eE b):eE (jL o):=by
 induction o with
 | none=>exact .one (by decide)
 | some b=>exact .cons (by decide) (iQ (h b rfl))
theorem b256_ch {c:Ch} (h:eE c.cx):eE c.enc:=(((hJ _).app (hJ _)).app (o0 fun p _=>(hJ p.1).app (hJ p.2))).app (iQ h)
theorem b256_sn {sn:Option Sn} (h:∀s,sn=some s→eE s.d):eE (encSn sn):=by
 induction sn with
 | none=>exact .one (by decide)
 | some s=>exact .cons (by decide) (iQ (b256_snap (h s rfl)))
theorem b256_msg {hd:List Nat} {fl:Nat} {es:List eN} {sn:Option Sn} {cx:List Nat} (h1:fl < 256) (h2:∀e∈es,eE e.d) (h3:∀s,sn=some s→eE s.d) (h4:eE cx):eE (lQ hd fl es sn cx):=by
 unfold lQ
 rw [encT_eq,catL_eq]
 exact (((((o0 fun a _=>hJ a).app (.one h1)).app (hJ _)).app (o0 fun e he=>iQ (b256_ent (h2 e he)))).app (b256_sn h3)).app (iQ h4)
theorem b256_cmd {k c n:Nat} {key val:List Nat} {ex:Option (List Nat)} (h1:eE key) (h2:eE val) (h3:∀b,ex=some b→eE b):eE (hG k c n key val ex):=
 (((((hJ _).app (hJ _)).app (hJ _)).app (iQ h1)).app (iQ h2)).app (b256_opt h3)
end
section
structure Dat (data:List Nat):Prop where
 z:data.length≤lim
 b:eE data
noncomputable def gR (kind:Nat) (data:List Nat) (v:V):Prop:=∀(d:Nat) (σ:aN) (Q:V→aN→Prop) (X:Ex→aN→Prop),(∀σ',σ <+:σ'→Q v σ')→wpCall (d+11) .law_read [.int kind,.bytes data] σ Q X
noncomputable def ReadsC (data:List Nat) (v:V):Prop:=∀(d:Nat) (σ:aN) (Q:V→aN→Prop) (X:Ex→aN→Prop),(∀σ',σ <+:σ'→Q v σ')→wpCall (d+8) .law_read_command [.bytes data] σ Q X
theorem eU.map {α:Type} {p:Except Ex α} {A A':α→Prop} {B B':Ex→Prop} (h:eU p A B) (he:∀x,p=.error x→B x→B' x) (hk:∀a,p=.ok a→A a→A' a):eU p A' B':=by
 induction p with
 | ok a=>exact hk a rfl h
 | error x=>exact he x rfl h
section
variable {data:List Nat} {v:V}
theorem rd_no {W:Wp} {m:Lo} {σ:aN} {K:Fl→Lo→aN→Prop} {X:Ex→Lo→aN→Prop} {x y:Ex} {r:M} (hc:pC x y=true) (h:K (.ret .none) m σ):tryX W (.cons (.sR .cN) r) y K X x m σ:=pTr hc (sR (eW.run h))
theorem reads_ent (D:Dat data) (h:eU (dEnt data) (fun e=>v=e.row) (fun _=>v=.none)):gR 2 data v:=by
 intro d σ Q X q
 refine ent [some (.int 2),some (.bytes data),none] rfl rfl ?_
 refine sTr (mU (dH (aB rfl) aH (dR (decide_eq_true rfl))) (sR (cM (dW (aP (aD (aB rfl) aG) ?_)))))
 refine c_decode_entry D.z (h.map (fun x e z=>?_) fun a e z=>?_)
 ·subst z
  exact fun σ' p=>rd_no (dEnt_cor x e) (q _ p)
 ·subst z
  intro σ' k p g
  refine iB.run aG ?_
  exact lT g (q _ p)
theorem reads_conf (D:Dat data) (hk:∀c,nZ data=.ok c→c.Ok) (h:eU (nZ data) (fun e=>v=e.row) (fun _=>v=.none)):gR 3 data v:=by
 intro d σ Q X q
 refine ent [some (.int 3),some (.bytes data),none] rfl rfl ?_
 refine sTr (iV (dH (aB rfl) aH (dR (decide_eq_false (by decide)))) (mU (dH (aB rfl) aH (dR (decide_eq_true rfl))) (sR (cM (dW (aP (aD (aB rfl) aG) ?_))))))
 refine c_decode_conf D.z D.b hk (h.map (fun x e z=>?_) fun a e z=>?_)
 ·subst z
  exact fun σ' p=>rd_no (dConf_cor x e) (q _ p)
 ·subst z
  intro σ' k p g
  refine iB.run aG ?_
  exact c_law_conf_row g (q _ p)
theorem reads_ch (D:Dat data) (hk:eU (dCh data) (fun c=>c.cs.length≤1000) (fun _=>True)) (h:eU (dCh data) (fun e=>v=e.row) (fun _=>v=.none)):gR 4 data v:=by
 intro d σ Q X q
 refine ent [some (.int 4),some (.bytes data),none] rfl rfl ?_
 refine sTr (iV (dH (aB rfl) aH (dR (decide_eq_false (by decide)))) (iV (dH (aB rfl) aH (dR (decide_eq_false (by decide)))) (mU (dH (aB rfl) aH (dR (decide_eq_true rfl))) (sA (aP (aD (aB rfl) aG) ?_)))))
 refine c_decode_change D.z D.b hk (h.map (fun x e z=>?_) fun a e z=>?_)
 ·subst z
  exact fun σ' p=>rd_no (dCh_cor x e) (q _ p)
 ·subst z
  intro σ' k p g
  obtain ⟨l,g0,g1⟩:=g
  refine sR (Ev.run (fJ (aD (a9 (aB rfl) g0 rfl) (aD (oW (a9 (aB rfl) g0 rfl) g1) (aD (a9 (aB rfl) g0 rfl) aG))) rfl) ?_)
  exact q _ p
theorem reads_snap (D:Dat data) (hk:snGood data) (h:eU (dSnap data) (fun e=>v=e.row) (fun _=>v=.none)):gR 5 data v:=by
 intro d σ Q X q
 refine ent [some (.int 5),some (.bytes data),none] rfl rfl ?_
 refine sTr (iV (dH (aB rfl) aH (dR (decide_eq_false (by decide)))) (iV (dH (aB rfl) aH (dR (decide_eq_false (by decide)))) (iV (dH (aB rfl) aH (dR (decide_eq_false (by decide)))) (mU (dH (aB rfl) aH (dR (decide_eq_true rfl))) (sR (cM (dW (aP (aD (aB rfl) aG) ?_))))))))
 refine oB D.z D.b hk (h.map (fun x e z=>?_) fun a e z=>?_)
 ·subst z
  exact fun σ' p=>rd_no (dSnap_cor x e) (q _ p)
 ·subst z
  intro σ' k p g
  refine iB.run aG ?_
  exact c_law_snap_row g (q _ p)
theorem reads_msg (D:Dat data) (hk:hkMsg data) (h:eU (dMsg data) (fun e=>e.es.length≤100∧v=e.lrow) (fun _=>v=.none)):gR 6 data v:=by
 intro d σ Q X q
 refine ent [some (.int 6),some (.bytes data),none] rfl rfl ?_
 refine sTr (iV (dH (aB rfl) aH (dR (decide_eq_false (by decide)))) (iV (dH (aB rfl) aH (dR (decide_eq_false (by decide)))) (iV (dH (aB rfl) aH (dR (decide_eq_false (by decide)))) (iV (dH (aB rfl) aH (dR (decide_eq_false (by decide)))) (mU (dH (aB rfl) aH (dR (decide_eq_true rfl))) (sR (cM (dW (aP (aD (aB rfl) aG) ?_)))))))))
 refine c_decode_message D.z D.b hk (h.map (fun x e z=>?_) fun a e z=>?_)
 ·subst z
  exact fun σ' p=>rd_no (dMsg_cor x e) (q _ p)
 ·obtain ⟨hn,rfl⟩:=z
  intro σ' k p g
  refine iB.run aG ?_
  exact j4 hn g fun s2 p2=>q _ (p.trans p2)
theorem reads_reply (D:Dat data) (h:eU (dReply data) (fun e=>v=.tup [.int e.1,fV e.2]) (fun _=>v=.none)):gR 7 data v:=by
 intro d σ Q X q
 refine ent [some (.int 7),some (.bytes data),none] rfl rfl ?_
 refine sTr (iV (dH (aB rfl) aH (dR (decide_eq_false (by decide)))) (iV (dH (aB rfl) aH (dR (decide_eq_false (by decide)))) (iV (dH (aB rfl) aH (dR (decide_eq_false (by decide)))) (iV (dH (aB rfl) aH (dR (decide_eq_false (by decide)))) (iV (dH (aB rfl) aH (dR (decide_eq_false (by decide)))) (mU (dH (aB rfl) aH (dR (decide_eq_true rfl))) (sR (aP (aD (aB rfl) aG) ?_))))))))
 refine c_read_reply D.z D.b (h.map (fun x e z=>?_) fun a e z=>?_)
 ·subst z
  exact fun σ' p=>rd_no (dReply_cor x e) (q _ p)
 ·subst z
  exact fun σ' p=>q _ p
theorem reads_sess (D:Dat data) (h:eU (dSess data) (fun e=>v=.tup [.int e.1,.bool e.2.1,.bytes e.2.2]) (fun _=>v=.none)):gR 8 data v:=by
 intro d σ Q X q
 refine ent [some (.int 8),some (.bytes data),none] rfl rfl ?_
 refine sTr (iV (dH (aB rfl) aH (dR (decide_eq_false (by decide)))) (iV (dH (aB rfl) aH (dR (decide_eq_false (by decide)))) (iV (dH (aB rfl) aH (dR (decide_eq_false (by decide)))) (iV (dH (aB rfl) aH (dR (decide_eq_false (by decide)))) (iV (dH (aB rfl) aH (dR (decide_eq_false (by decide)))) (iV (dH (aB rfl) aH (dR (decide_eq_false (by decide)))) (sR (aP (aD (aB rfl) aG) ?_))))))))
 refine c_decode_session D.z D.b (h.map (fun x e z=>?_) fun a e z=>?_)
 ·subst z
  exact fun σ' p=>rd_no (dSess_cor x e) (q _ p)
 ·subst z
  exact fun σ' p=>q _ p
noncomputable def Cm.row (m:Cm):V:=.tup [.int m.k,.int m.c,.int m.n,.bytes m.key,.bytes m.val,fV m.ex]
theorem reads_cmd (D:Dat data) (h:eU (pCmd data) (fun m=>if 6 < m.k then v=.none else v=m.row) (fun _=>v=.none)):ReadsC data v:=by
 intro d σ Q X q
 refine ent [some (.bytes data)] rfl rfl ?_
 refine sTr (sR (cM (dW (aP (aD (aB rfl) aG) ?_))))
 refine c_decode_command D.z D.b (h.map (fun x e z=>?_) fun m e z=>?_)
 ·subst z
  exact fun σ' p=>rd_no rfl (q _ p)
 ·by_cases w:6 < m.k
  ·rw [if_pos w] at z ⊢
   subst z
   exact fun σ' p=>rd_no rfl (q _ p)
  ·rw [if_neg w] at z ⊢
   subst z
   intro σ' k p g
   refine iB.run aG ?_
   exact c_law_command_row g (q _ p)
end
theorem take_pre {α:Type} {l:List α} {n:Nat}:slice l 0 (lS l.length (n:Int))=l.take n:=by
 rw [oY]
 unfold slice
 rw [List.drop_zero]
 exact (List.take_eq_take_min).symm
section
variable {d:Nat} {σ:aN} {Q:V→aN→Prop} {X:Ex→aN→Prop}
theorem ev_pre {m:Lo} {i j n:Nat} {bs:List Nat} (ha:cD m i=some (.bytes bs)) (hj:cD m j=some (.int n)):Ev m σ (.slc (.loc i) .nil (.loc j)) (.bytes (bs.take n)):=by
 refine ⟨fun {W Q X} q=>e_slc ((aB ha).run ?_)⟩
 refine jB hj (.bytes (l:=0) rfl rfl ?_)
 rw [take_pre];exact q
theorem c_law_whole {kind:Nat} {enc:List Nat} {vs:List V} {x:Nat} (hp:V.pure 20 (.tup vs)=true) (h0:0 < enc.length) (hz:enc.length+1≤lim) (R1:gR kind enc (.tup vs))
  (R2:∀n,n < enc.length→gR kind (enc.take n) .none∨(kind=4∧n=0∧∃us,gR kind (enc.take n) (.tup us))) (R3:gR kind (enc++[x % 256]) .none)
  (h:∀σ',σ <+:σ'→Q (.bool true) σ'):wpCall (d+12) .law_whole [.int kind,.bytes enc,.bytes enc,.tup vs,.int x] σ Q X:=by
 refine ent [some (.int kind),some (.bytes enc),some (.bytes enc),some (.tup vs),some (.int x),none] rfl rfl ?_
 refine sI (t_orc (nI.rF (dH (aB rfl) (aB rfl) c_neB) (p_orF (eP (aP (aD (aB rfl) (aD (aB rfl) aG)) ?_)))))
 refine R1 _ _ _ _ fun s1 p1=>?_
 refine Ev.run (aB rfl) (eI.rF (c_neT hp) (pI0 (sF rfl (aP (aD (gM (aB rfl)) (aD (aB rfl) aG)) ?_))))
 refine c_law_cuts h0 ?_
 have hc:∀n∈[x % enc.length,enc.length - 1],n < enc.length:=d6 (fX _ h0) (d6 (Nat.sub_lt h0 lD) fT)
 refine pFo (f:=cU) (xs:=[x % enc.length,enc.length - 1]) (fun a c m σ'=>∃t,m=[some (.int kind),some (.bytes enc),some (.bytes enc),some (.tup vs),some (.int x),t]∧s1++[.list ([x % enc.length,enc.length - 1].map cU)] <+:σ') ⟨none,rfl,dM⟩ (fun a c m σ' hI=>?_) (fun m σ' hI=>?_) fun a n c e R hR m σ' hI=>?_
 ·obtain ⟨_,_,p⟩:=hI
  exact bZ p aQ
 ·obtain ⟨t,rfl,p⟩:=hI
  refine sR (e_cmp (cM (dW ((aB rfl).run (dW (cR ((aB rfl).run (w_one (b8 (aB rfl) aH (dU (q:=256) (by decide))) m256 (N:=enc.length) (bD _) (dX hz) (p1.trans ((aW _ _).trans p)) fun s p _=>?_))))))))
  refine iB.run aG ?_
  refine R3 _ _ _ _ fun s3 p3=>?_
  refine Ev.run eW (eI.rT c_isN ?_)
  exact h _ (p.trans p3)
 ·obtain ⟨t,rfl,p⟩:=hI
  have hn:=hc n (e▸a8 _ (.head _))
  refine bd rfl (sI (t_anc (eP (aP (aD (aB rfl) (aD (ev_pre rfl rfl) aG)) ?_))))
  rcases R2 n hn with q | ⟨rfl,rfl,us,q⟩
  ·refine q _ _ _ _ fun s2 p2=>?_
   refine Ev.run eW (eI.rF fA (p_anF (pI0 (s0 ?_))))
   exact hR _ _ ⟨some (cU n),rfl,p.trans p2⟩
  ·refine q _ _ _ _ fun s2 p2=>?_
   refine eW.run (c_isnT.rT (p_anT (nI.rF (t_nf (i8 (dH (aB rfl) aH (dR rfl)) (dH (aB rfl) aH (dR rfl)))) (pI0 (s0 (hR _ _ ⟨some (cU 0),rfl,p.trans p2⟩))))))
theorem c_law_refused {k c n:Int} {key val:List Nat} {ex:Option (List Nat)} (hb:k.natAbs < 2 ^ 128∧c.natAbs < 2 ^ 128∧n.natAbs < 2 ^ 128) (hbad:(k < 0∨6 < k)∨(c < 0∨18446744073709551615 < c)∨(n < 0∨18446744073709551615 < n))
  (h:∀σ',σ <+:σ'→Q (.bool true) σ'):wpCall (d+7) .law_refused_command [.tup [.int k,.int c,.int n,.bytes key,.bytes val,fV ex]] σ Q X:=by
 refine ent [some (.tup [.int k,.int c,.int n,.bytes key,.bytes val,fV ex])] rfl rfl ?_
 refine sTr (sE (mC (eQ (aD (cQ (aB rfl) aH rfl) (aD (cQ (aB rfl) aH rfl) (aD (cQ (aB rfl) aH rfl) (aD (cQ (aB rfl) aH rfl) (aD (cQ (aB rfl) aH rfl) (aD (cQ (aB rfl) aH rfl) aG)))))) ?_)))
 refine m9 (nq ?_)
 have g:(σ++[cmdO k c n key val ex])[σ.length]? =some (cmdO k c n key val ex):=aQ
 have ret:∀{s:aN} {m:Lo} {K:Fl→Lo→aN→Prop} {XX:Ex→Lo→aN→Prop},K (.ret (.bool true)) m s→tryX (wpCall (d+6)) (.cons (.sR (.cB true)) .nil) .BadCommand K XX .BadCommand m s:=fun q=>pTr rfl (sR (ev_b.run q))
 refine p_meth g rfl aG ?_
 by_cases q:k < 0∨6 < k
 ·exact c_Command_encode_kind g q hb.1 (ret (h _ (aW _ _)))
 ·obtain ⟨k',rfl⟩:∃k':Nat,k=k':=⟨k.toNat,(Int.toNat_of_nonneg (gP.mp fun z=>q (.inl z))).symm⟩
  exact c_Command_encode_bad g (bU fun z=>q (.inr (bH.mpr z))) hb.2.1 hb.2.2 (hbad.resolve_left q) fun σ' p=>ret (h _ ((aW _ _).trans p))
end
noncomputable def keyB (n:Nat):List Nat:=(List.range 8).map fun i=>n / 256 ^ (7 - i) % 256
theorem dm {n p q:Nat} (h:4294967296=p*(256*q)):n % 4294967296 / p % 256=n / p % 256:=by rw [h,Nat.mod_mul_right_div_self,Nat.mod_mul_right_mod]
theorem keyB_le8 (n:Nat):(le8 n).reverse=keyB n:=by
 show [n / 4294967296 / 16777216 % 256,n / 4294967296 / 65536 % 256,n / 4294967296 / 256 % 256,n / 4294967296 % 256,n % 4294967296 / 16777216 % 256,n % 4294967296 / 65536 % 256,n % 4294967296 / 256 % 256,n % 4294967296 % 256]=[n / 72057594037927936 % 256,n / 281474976710656 % 256,n / 1099511627776 % 256,n / 4294967296 % 256,n / 16777216 % 256,n / 65536 % 256,n / 256 % 256,n / 1 % 256]
 rw [iR,iR,iR,dm (q:=1) rfl,dm (q:=256) rfl,dm (q:=65536) rfl,Nat.mod_mod_of_dvd n (show 256 ∣ 4294967296 from ⟨16777216,rfl⟩),Nat.div_one]
theorem keyB_len (n:Nat):(keyB n).length=8:=rfl
theorem keyB_256 (n:Nat):eE (keyB n):=fun x hx=>by
 obtain ⟨i,_,rfl⟩:=dE.mp hx
 exact m256
theorem div_st {n p q:Nat} (h:q=p*256):n / q*256+n / p % 256=n / p:=by
 rw [h,←iR,eX,Nat.div_add_mod]
theorem be_key {n:Nat} (h:n≤18446744073709551615):be 0 (keyB n)=n:=by
 show ((((((((0*256+n / 72057594037927936 % 256)*256+n / 281474976710656 % 256)*256+n / 1099511627776 % 256)*256+n / 4294967296 % 256)*256+n / 16777216 % 256)*256+n / 65536 % 256)*256+n / 256 % 256)*256+n / 1 % 256)=n
 rw [Nat.zero_mul,fL,hK (jN (aS h (by decide))),div_st (p:=281474976710656) rfl,div_st (p:=1099511627776) rfl,div_st (p:=4294967296) rfl,div_st (p:=16777216) rfl,div_st (p:=65536) rfl,div_st (p:=256) rfl,div_st (p:=1) rfl,Nat.div_one]
theorem be_acc:∀{l:List Nat} {n:Nat},be n l=n*256 ^ l.length+be 0 l
 | [],n=>(Nat.mul_one n).symm
 | a::l,n=>by
  show be (n*256+a) l=n*256 ^ (l.length+1)+be (0*256+a) l
  rw [be_acc (n:=n*256+a),be_acc (n:=0*256+a),Nat.zero_mul,fL,Nat.pow_succ,Nat.add_mul,c4,Nat.mul_assoc,eX 256]
theorem be_c {l:List Nat} {a:Nat}:be 0 (a::l)=a*256 ^ l.length+be 0 l:=by
 show be (0*256+a) l=_
 rw [Nat.zero_mul,fL];exact be_acc
theorem lt_hi {x y a b p:Nat} (h:x < y) (l:a < p):x*p+a < y*p+b:=aJ (gV l _) (aA (jW x p▸bA p h) (aU _ _))
theorem be_lt:∀{l:List Nat},eE l→be 0 l < 256 ^ l.length
 | [],_=>lD
 | a::l,h=>by
  rw [be_c,cK,Nat.pow_succ,eX _ 256]
  exact aJ (lt_hi (b:=0) (h a (.head _)) (be_lt fun x hx=>h x (.tail _ hx))) (bD _)
theorem ltB_be:∀{a b:List Nat},a.length=b.length→eE a→eE b→ltB a b=decide (be 0 a < be 0 b)
 | [],[],_,_,_=>rfl
 | x::a,y::b,hl,ha,hb=>by
  have hn:a.length=b.length:=Nat.succ.inj hl
  have ha':eE a:=fun x hx=>ha x (.tail _ hx)
  have hb':eE b:=fun x hx=>hb x (.tail _ hx)
  have la:=be_lt ha'
  have lb:=be_lt hb'
  rw [be_c,be_c,←hn]
  rw [←hn] at lb
  show (if x < y then true else if y < x then false else ltB a b)=_
  by_cases q:x < y
  ·rw [if_pos q];exact (decide_eq_true (lt_hi q la)).symm
  ·rw [if_neg q]
   by_cases w:y < x
   ·rw [if_pos w];exact (decide_eq_false (Nat.lt_asymm (lt_hi w lb))).symm
   ·obtain rfl:=kM (bU w) (bU q)
    rw [if_neg w,ltB_be (a:=a) (b:=b) hn ha' hb']
    exact decide_eq_decide.mpr Nat.add_lt_add_iff_left.symm
theorem key_lt {a b:Nat} (ha:a≤18446744073709551615) (hb:b≤18446744073709551615):ltB (115::keyB a) (115::keyB b)=decide ((a:Int) < (b:Int)):=by
 show ltB (keyB a) (keyB b)=_
 rw [ltB_be (a:=keyB a) (b:=keyB b) rfl (keyB_256 a) (keyB_256 b),be_key ha,be_key hb]
 exact decide_eq_decide.mpr bH.symm
section
variable {d:Nat} {σ:aN} {Q:V→aN→Prop} {X:Ex→aN→Prop}
theorem c_key {n:Nat} (hn:n≤18446744073709551615) (h:∀τ,Q (.bytes (115::keyB n)) (σ++τ)):wpCall (d+3) .session_key [.int n] σ Q X:=
 c_session_key hn (by rw [keyB_le8];exact h)
theorem c_client {n:Nat} (hn:n≤18446744073709551615) (h:Q (.int n) σ):wpCall (d+1) .client_of [.bytes (115::keyB n)] σ Q X:=
 c_client_of (bD 8) (keyB_256 n) (by rw [be_key hn];exact h)
end
end
section
theorem lM.r {α:Type} {p:Except Ex α} {A:α→Prop} {B:Ex→Prop} (h:lM p) (k:∀x,B x):eU p A B:=by obtain ⟨x,rfl⟩:=h;exact k x
theorem eU.ok {α:Type} {p:Except Ex α} {a:α} {A:α→Prop} {B:Ex→Prop} (h:p=.ok a) (k:A a):eU p A B:=by subst h;exact k
theorem Dat.pre {a b:List Nat} (h:Dat b) (p:a <+:b):Dat a:=⟨aA p.length_le h.z,fun x hx=>h.b x (p.subset hx)⟩
theorem Dat.snoc {b:List Nat} (h:Dat b) (z:b.length+1≤lim) {x:Nat} (hx:x < 256):Dat (b++[x]):=⟨by rw [aF];exact z,h.b.app (.one hx)⟩
theorem take_ne {b:List Nat} {n:Nat} (h:n < b.length):b.take n≠b:=fun e=>fQ n (aJ h (by
 have:=congrArg List.length e
 rw [nG] at this
 exact this▸Nat.min_le_left _ _))
noncomputable def Off (enc data:List Nat):Prop:=(∃n,n < enc.length∧data=enc.take n)∨∃y,y < 256∧data=enc++[y]
theorem fU.off {β:Type} {F:List Nat→Except Ex β} {enc data:List Nat} {a:β} (h:fU F enc a) (o:Off enc data):lM (F data):=by
 rcases o with ⟨n,hn,rfl⟩ | ⟨y,_,rfl⟩
 ·exact h.sh _ (List.take_prefix n enc) (take_ne hn)
 ·exact h.lg y
theorem Off.dat {enc data:List Nat} (D:Dat enc) (z:enc.length+1≤lim) (o:Off enc data):Dat data:=by
 rcases o with ⟨n,hn,rfl⟩ | ⟨y,h,rfl⟩
 ·exact D.pre (List.take_prefix n enc)
 ·exact D.snoc z h
structure WhR (kind:Nat) (enc:List Nat) (vs:List V):Prop where
 p:V.pure 20 (.tup vs)=true
 n:0 < enc.length
 z:enc.length+1≤lim
 r:gR kind enc (.tup vs)
 o:∀data,Off enc data→(kind=4→data≠[])→gR kind data .none
 e:kind=4→∃us,gR kind [] (.tup us)
theorem optV_pure (n:Nat) (o:Option (List Nat)):V.pure n (fV o)=true:=by
 cases o <;> cases n <;> rfl
section
variable {d:Nat} {σ:aN} {Q:V→aN→Prop} {X:Ex→aN→Prop}
theorem WhR.run {kind:Nat} {enc:List Nat} {vs:List V} {x:Nat} (H:WhR kind enc vs) (h:∀σ',σ <+:σ'→Q (.bool true) σ'):wpCall (d+12) .law_whole [.int kind,.bytes enc,.bytes enc,.tup vs,.int x] σ Q X:=
 c_law_whole H.p H.n H.z H.r (fun n hn=>by
  by_cases q:kind=4∧n=0
  ·obtain ⟨rfl,rfl⟩:=q
   exact .inr ⟨rfl,rfl,H.e rfl⟩
  ·exact .inl (H.o _ (.inl ⟨n,hn,rfl⟩) fun k e=>q ⟨k,(List.take_eq_nil_iff.mp e).elim id fun e=>absurd e (List.ne_nil_of_length_pos H.n)⟩)) (H.o _ (.inr ⟨_,m256,rfl⟩) fun _ e=>absurd (List.append_eq_nil_iff.mp e).2 (List.cons_ne_nil _ _)) h
theorem WhR.of {β:Type} {F:List Nat→Except Ex β} {a:β} {kind:Nat} {enc:List Nat} {vs:List V} (W:fU F enc a) (D:Dat enc) (h4:Nat.beq kind 4=false) (hp:V.pure 20 (.tup vs)=true) (hn:0 < enc.length) (z:enc.length+1≤lim) (r:Dat enc→F enc=.ok a→gR kind enc (.tup vs)) (o:∀data,Off enc data→Dat data→lM (F data)→gR kind data .none):WhR kind enc vs:=
 ⟨hp,hn,z,r D W.ok,fun data q _=>o data q (q.dat D z) (W.off q),fun e=>by rw [e] at h4;exact nomatch h4⟩
theorem no_reply {data:List Nat} (D:Dat data) (h:lM (dReply data)):gR 7 data .none:=reads_reply D (h.r fun _=>rfl)
theorem no_sess {data:List Nat} (D:Dat data) (h:lM (dSess data)):gR 8 data .none:=reads_sess D (h.r fun _=>rfl)
theorem no_cmd {data:List Nat} (D:Dat data) (h:lM (pCmd data)):ReadsC data .none:=reads_cmd D (h.r fun _=>rfl)
theorem mD {N a:Nat} (h:a≤N) (q:Nat.ble (N+1) 1048576=true):a+1≤lim:=aA (bX h) (LE q)
theorem mod_lt {n m:Nat} (h:Nat.blt 0 m=true):n % m < m:=fX n (LE h)
theorem y256 {k m x:Nat} (h:Nat.ble (k+m) 256=true) (q:Nat.blt 0 m=true):k+x % m < 256:=aJ (gV (mod_lt q) k) (LE h)
theorem yle {k j x:Nat} (h:Nat.blt j k=true):j < k+x:=aJ (LE h) (aU k x)
theorem cmds_keys {client number:Nat} {v0 v1 v2 v5 v6 v7 v8 v9 v10 v11 v12 v13 v14 v15 v16:Option V} (hc:client≤18446744073709551615) (hn:number≤18446744073709551615) (h:∀σ',Q (.bool true) σ'):
  wpSs (wpCall (d+12)) (gE.tl 24) [v0,v1,v2,some (.int client),some (.int number),v5,v6,v7,v8,v9,v10,v11,v12,v13,v14,v15,v16,none] σ (mV Q) (exK X):=by
 refine sA (aP (aD (aB rfl) aG) ?_)
 refine c_key hc fun τ=>?_
 refine sI (t_orc (eP (Ev.run (aB rfl) (cR (Ev.run ev_y (fH (eCr (Ev.run aH ?_))))))))
 refine pCr (n:=8) (by decide) (fun i=>.int ((client / 256 ^ (7 - i) % 256:Nat):Int)) (fun _ _=>True) trivial (fun σ1 _=>?_) (fun j hj R hR s1 _=>⟨_,rfl,?_⟩)
 ·refine p_bysN (bs:=keyB client) (by rw [keyB,fN];exact aQ) (keyB_256 client) ((nA (LE rfl)).run (c_neB.run ?_))
  refine p_orF (eP (aP (aD (aB rfl) aG) ?_))
  refine c_client hc ?_
  refine Ev.run (aB rfl) (eI.rF (c_neI (ne_f rfl)) (pI0 (sR (e_cmp (e_cmp (Ev.run (aB rfl) (aP (aD (aB rfl) aG) ?_)))))))
  exact c_key hn fun τ2=>c_ltB.run ((ev_c (aB rfl) (aB rfl) (d0 rfl)).run ((c_eqb (key_lt hc hn)).run (h _)))
 ·have e:(7:Int) - (j:Int)=((7 - j:Nat):Int):=(Int.ofNat_sub (bE hj)).symm
  exact (b8 (b8 (aB rfl) (b8 (aH (i:=((256:Nat):Int))) ((b8 aH (aB rfl) b_sub).cast (congrArg V.int e)) (b_powN (aA (Nat.sub_le 7 j) (LE rfl)) (by decide))) (kA (Nat.pow_pos (by decide)) (aS (nM (by decide) (Nat.sub_le 7 j)) (by decide)))) aH (dU (q:=256) (by decide))).run (hR _ trivial)
theorem w_by1 {σ0:aN} {b:List Nat} {n N:Nat} (h256:n < 256) (hb:b.length≤N) (hN:Nat.ble (N+1) 1048576=true) (p:σ0 <+:σ) (h:∀σ',σ0 <+:σ'→(b++[n]).length≤N+1→Q (.bytes (b++[n])) σ'):qB .bytes (fun y σ=>mQ .add (.bytes b) y σ Q) (.obj σ.length) (σ++[.list [.int n]]):=
 p_by1 aQ h256 ((nA (aA (d9 hb 1) (LE hN))).run (h _ (p.trans (aW _ _)) (bY hb (bD 1))))
theorem sess_bad {n y:Nat} {x:List Nat} (hn:n≤18446744073709551615) (hy:1 < y):lM (dSess (groups n++[y]++lenB x)):=by rw [sess_r];exact (bR hn).bad (lI (bad_pf hy))
theorem sess_len {n y:Nat} {x:List Nat} (hn:n≤18446744073709551615) (hx:x.length≤16):(groups n++[y]++lenB x).length≤40:=aA (bY (bY (oP hn) (bD 1)) (gB hx rfl)) (LE rfl)
theorem sess_dat {n y:Nat} {x:List Nat} (hn:n≤18446744073709551615) (hx:x.length≤16) (hb:eE x) (hy:y < 256):Dat (groups n++[y]++lenB x):=⟨jK (sess_len hn hx) rfl,((hJ n).app (.one hy)).app (iQ hb)⟩
theorem sess_wh {n:Nat} {f:Bool} {x:List Nat} (hn:n≤18446744073709551615) (hx:x.length≤16) (hb:eE x):WhR 8 (groups n++[f.toNat]++lenB x) [.int n,.bool f,.bytes x]:=
 .of (whole_sess (f:=f) hn (aA hx (LE rfl))) (sess_dat hn hx hb (hZ f)) rfl rfl (kC.mpr (fB (fB (gT n)))) (mD (sess_len hn hx) rfl) (fun D e=>reads_sess D (.ok e rfl)) fun _ _ D b=>no_sess D b
theorem cmds_sess {x client number jt ja:Nat} {t:List Int} {rep:List Nat} {v5 v6 v7 v8 v9 v10 v11 v12 v13:Option V} (D:Dr t jt ja σ) (hc:client≤18446744073709551615) (hn:number≤18446744073709551615) (hr:rep.length≤16) (hb:eE rep) (h:∀σ',Q (.bool true) σ'):
  wpSs (wpCall (d+12)) (gE.tl 20) [some (.obj jt),some (.obj ja),some (.int x),some (.int client),some (.int number),v5,v6,v7,v8,v9,v10,v11,v12,v13,some (.bytes rep),none,none,none] σ (mV Q) (exK X):=by
 refine sA (e_cmp (aP (aD (aB rfl) (aD (aB rfl) (aD aH aG))) ?_))
 refine hH (m:=2) D (by decide) fun io hio s1 f1 D1=>?_
 refine Ev.run aH (eI.run (dR rfl) (sA (aP (aD (aB rfl) (aD (aB rfl) (aD (aB rfl) aG))) ?_)))
 refine c_encode_session (L:=0) hn (aA hr (LE rfl)) fun s2 p2=>?_
 refine sI (t_noc (t_val rfl (cM (dW (Ev.run aH (dW (Ev.run (aB rfl) (dW (cR (cR (aP (aD (aB rfl) aG) ?_)))))))))))
 refine jT hn fun τ3=>?_
 refine fH (eA (aD (b8 (aB rfl) aH b_addb) aG) rfl ?_)
 refine w_by1 (hZ _) (oP hn) rfl (aW s2 τ3) fun s4 p4 l4=>?_
 refine aP (aD (aB rfl) aG) ?_
 refine w_len l4 hr rfl p4 fun s5 p5 _=>?_
 refine iB.run (aD (fJ (aD (aB rfl) (aD (aB rfl) (aD (aB rfl) aG))) rfl) (aD (aB rfl) aG)) ?_
 refine (sess_wh hn hr hb).run fun s6 p6=>?_
 refine p_tb (p_noT (pI0 (sI (eP (cM (dW (Ev.run aH (dW (cR (cR (aP (aD (aB rfl) aG) ?_)))))))))))
 refine jT hn fun τ7=>?_
 refine fH (eA (aD (b8 aH (b8 (aB rfl) aH (dU (by decide))) cE) aG) rfl ?_)
 refine w_by1 (y256 rfl rfl) (oP hn) rfl (aW s6 τ7) fun s8 p8 l8=>?_
 refine aP (aD (aB rfl) aG) ?_
 refine w_len l8 hr rfl p8 fun s9 p9 _=>?_
 refine iB.run aG ?_
 refine no_sess (sess_dat hn hr hb (y256 rfl rfl)) (sess_bad hn (yle rfl)) _ _ _ _ fun s10 p10=>?_
 refine Ev.run eW (eI.rF fA (pI0 (sA (aP (aD (aB rfl) aG) ?_))))
 exact cmds_keys hc hn h
theorem rep_len4 {y:Nat} {o:Option (List Nat)} (ho:lK 4 o):(y::jL o).length≤16:=bX (pE ho rfl)
theorem rep_b {y:Nat} {o:Option (List Nat)} (hy:y < 256) (ho:OcO 4 o):eE (y::jL o):=.cons hy (b256_opt fun b e=>(ho b e).b)
theorem rep_dat {y:Nat} {o:Option (List Nat)} (hy:y < 256) (ho:OcO 4 o):Dat (y::jL o):=⟨jK (rep_len4 (ho.le (bD 4))) rfl,rep_b hy ho⟩
theorem rep_wh {c:Nat} {o:Option (List Nat)} (hc:c < 4) (ho:OcO 4 o):WhR 7 (c::jL o) [.int c,fV o]:=
 .of (whole_reply (bE hc) (ho.le (LE rfl))) (rep_dat (aJ hc (LE rfl)) ho) rfl (by
  show (true && (V.pure 19 (fV o) && true))=true
  rw [optV_pure];rfl) (fM _) (mD (rep_len4 (ho.le (bD 4))) rfl) (fun D e=>reads_reply D (.ok e rfl)) fun _ _ D b=>no_reply D b
theorem cmds_reply {x client number jt ja:Nat} {t:List Int} {expect:Option (List Nat)} {v5 v6 v8 v9 v10 v11 v12:Option V} (D:Dr t jt ja σ) (hc:client≤18446744073709551615) (hn:number≤18446744073709551615) (ho:OcO 4 expect) (h:∀σ',Q (.bool true) σ'):
  wpSs (wpCall (d+12)) (gE.tl 15) [some (.obj jt),some (.obj ja),some (.int x),some (.int client),some (.int number),v5,v6,some (fV expect),v8,v9,v10,v11,v12,none,none,none,none,none] σ (mV Q) (exK X):=by
 have ho3:lK 1000 expect:=ho.le (LE rfl)
 refine sA (aP (aD (aB rfl) (aD (aB rfl) (aD aH aG))) ?_)
 refine hH (m:=4) D (by decide) fun code hcode s1 f1 D1=>?_
 have h256:code < 256:=aJ hcode (LE rfl)
 refine sA (aP (aD (aB rfl) (aD (aB rfl) aG)) ?_)
 refine c_make_reply h256 (ho.le (LE rfl)) fun s2 p2=>?_
 refine sI (t_noc (t_val rfl (cM (dW (Ev.run aH (dW (Ev.run (aB rfl) (dW (cR (fH (eA (aD (aB rfl) aG) rfl ?_)))))))))))
 refine p_by1 aQ h256 ?_
 refine aP (aD (aB rfl) aG) ?_
 refine w_opt (b:=[code]) (N:=1) (bD 1) ho3 rfl (p2.trans (aW s2 _)) fun s3 p3 _=>?_
 refine iB.run (aD (fJ (aD (aB rfl) (aD (aB rfl) aG)) rfl) (aD (aB rfl) aG)) ?_
 refine (rep_wh hcode ho).run fun s4 p4=>?_
 refine p_tb (p_noT (pI0 (sI (eP (cM (dW (Ev.run aH (dW (cR (fH (eA (aD (b8 aH (b8 (aB rfl) aH (dU (by decide))) cE) aG) rfl ?_)))))))))))
 refine p_by1 aQ (y256 rfl rfl) ?_
 refine aP (aD (aB rfl) aG) ?_
 refine w_opt (b:=[4+x % 252]) (N:=1) (bD 1) ho3 rfl ((p3.trans p4).trans (aW s4 _)) fun s5 p5 _=>?_
 refine iB.run aG ?_
 refine no_reply (rep_dat (y256 rfl rfl) ho) (bad_t (yle rfl)) _ _ _ _ fun s6 p6=>?_
 refine Ev.run eW (eI.rF fA (pI0 (sI (eP (cM (dW (Ev.run aH (dW (fH (eA (aD (aB rfl) (aD (b8 aH (b8 (aB rfl) aH (dU (by decide))) cE) aG)) rfl ?_))))))))))
 refine p_bysN (bs:=[code,2+x % 254]) aQ (d6 h256 (d6 (y256 rfl rfl) fT)) ?_
 refine iB.run aG ?_
 refine no_reply ⟨LE rfl,.cons h256 (.one (y256 rfl rfl))⟩ (bad_f fun _=>lI (lI (bad_pf (yle rfl)))) _ _ _ _ fun s7 p7=>?_
 refine Ev.run eW (eI.rF fA (pI0 (sA (e_cmp (aP (aD (aB rfl) (aD (aB rfl) (aD aH aG))) ?_)))))
 exact cmds_sess (D1.pre ((p5.trans p6).trans ((aW s6 _).trans p7))) hc hn (rep_len4 (ho.le (bD 4))) (rep_b h256 ho) h
end
end
section
theorem rep_len {α:Type} {b:List α}:∀{n:Nat},(rep b n).length=b.length*n
 | 0=>rfl
 | n+1=>aF.trans (by rw [rep_len,Nat.mul_succ,eY])
theorem rep_256 {b:List Nat} (h:eE b):∀{n:Nat},eE (rep b n)
 | 0=>fT
 | n+1=>h.app (rep_256 h)
theorem b_rep {b:List Nat} {n:Nat} (h:b.length≤16) (q:b.length*n≤lim) (hn:n≤lim):gF .mul (.bytes b) (.int n) (.bytes (rep b n)):=⟨.mulB hn h q⟩
theorem neg_e (x:Nat):(-1:Int) - (x:Int)=Int.negSucc x:=by rw [Int.negSucc_eq,Int.neg_add,Int.add_comm];rfl
theorem clamp_last {n:Nat}:lS (n+1) (-1)=n:=by
 have e:(-1:Int)+((n+1:Nat):Int)=(n:Int):=by rw [Int.natCast_add,Int.add_comm,Int.add_assoc];exact Int.add_zero _
 unfold lS
 rw [if_pos (by decide),e,oO (cC.mpr (eJ n)),Int.max_eq_right (aV n)]
 rfl
theorem slice_last {l:List Nat} {a:Nat}:slice (l++[a]) 0 (lS (l++[a]).length (-1))=l:=by
 rw [aF,List.length_singleton,clamp_last]
 unfold slice
 rw [List.drop_zero,oN];rfl
theorem p_last {W:Wp} {m:Lo} {σ:aN} {Q:V→aN→Prop} {X:Ex→aN→Prop} {l:List Nat} {a:Nat} (q:Q (.bytes l) σ):wpO W .nil m σ (fun u σ=>wpO W (.neg (.cI 1)) m σ (fun w σ=>wpSlc (.bytes (l++[a])) u w σ Q) X) X:=
 .bytes (l:=0) rfl rfl (by rw [slice_last];exact q)
structure Cd (c n:Nat) (key val:List Nat) (ex:Option (List Nat)):Prop where
 c:c≤18446744073709551615
 n:n≤18446744073709551615
 k:Oc 1000 key
 v:Oc 1000 val
 e:OcO 4 ex
section
variable {k c n x:Nat} {key val:List Nat} {ex o:Option (List Nat)}
theorem Cd.len (C:Cd c n key val ex) (hk:k≤18446744073709551615) (ho:lK 1000 o):(hG k c n key val o).length≤4000:=
 aA (bY (bY (bY (bY (bY (oP hk) (oP C.c)) (oP C.n)) (gB C.k.l rfl)) (gB C.v.l rfl)) (pE ho rfl)) (LE rfl)
theorem Cd.dat (C:Cd c n key val ex) (hk:k≤18446744073709551615) (ho:lK 1000 o) (hb:∀b,o=some b→eE b):Dat (hG k c n key val o):=⟨jK (C.len hk ho) rfl,b256_cmd C.k.b C.v.b hb⟩
theorem Cd.ho (C:Cd c n key val ex):lK 1000 ex:=C.e.le (LE rfl)
theorem Cd.hb (C:Cd c n key val ex):∀b,ex=some b→eE b:=fun b e=>(C.e b e).b
theorem Cd.wh (C:Cd c n key val ex) (hk:k≤18446744073709551615):fU pCmd (hG k c n key val ex) ⟨k,c,n,key,val,ex⟩:=whole_cmd (m:=⟨k,c,n,key,val,ex⟩) hk C.c C.n C.k.l C.v.l C.ho
theorem seven {x:Nat}:x % 7≤6:=bE (mod_lt rfl)
theorem six {k:Nat} (h:k≤6):k≤18446744073709551615:=aA h (LE rfl)
theorem no_opt {n:Nat}:lK n none:=fun _ h=>nomatch h
theorem kx {x:Nat} (hx:x < 4096):7+x≤18446744073709551615:=aA (aT (b6 hx) 7) (LE rfl)
theorem Cd.flag (C:Cd c n key val ex) (hk:k≤18446744073709551615) {y:Nat} (hy:1 < y):lM (pCmd (groups k++groups c++groups n++lenB key++lenB val++[y])):=by
 rw [aE,aE,aE,aE]
 exact (bR hk).bad ((bR C.c).bad ((bR C.n).bad ((gA C.k.l rfl).bad ((gA C.v.l rfl).bad (lI (lI (bad_pf hy)))))))
noncomputable def Rf (t:Int×Int×Int):Prop:=(t.1.natAbs < 2 ^ 128∧t.2.1.natAbs < 2 ^ 128∧t.2.2.natAbs < 2 ^ 128)∧((t.1 < 0∨6 < t.1)∨(t.2.1 < 0∨18446744073709551615 < t.2.1)∨(t.2.2 < 0∨18446744073709551615 < t.2.2))
noncomputable def triV (t:Int×Int×Int):V:=.tup [.int t.1,.int t.2.1,.int t.2.2]
theorem rfs (C:Cd c n key val ex) (hx:x < 4096):∀t∈[(((7+x:Nat):Int),(c:Int),(n:Int)),(-1 - (x:Int),(c:Int),(n:Int)),(((x % 7:Nat):Int),((18446744073709551616+x:Nat):Int),(n:Int)),(((x % 7:Nat):Int),(c:Int),((18446744073709551616+x:Nat):Int)),(((x % 7:Nat):Int),-1 - (x:Int),(n:Int)),(((x % 7:Nat):Int),(c:Int),-1 - (x:Int))],Rf t:=by
 rw [neg_e]
 have small:∀{k},k≤18446744073709551615→k < 2 ^ 128:=fun h=>aS h (by decide)
 have hc:=small C.c
 have hn:=small C.n
 have h7:=small (six (@seven x))
 have hN:x+1 < 2 ^ 128:=dD (Nat.succ_lt_succ hx) (by decide)
 have hB:18446744073709551616+x < 2 ^ 128:=dD (gV hx _) (by decide)
 have big:(18446744073709551615:Int) < ((18446744073709551616+x:Nat):Int):=bH.mpr (yle rfl)
 have neg:=Int.negSucc_lt_zero x
 exact d6 ⟨⟨small (kx hx),hc,hn⟩,.inl (.inr (bH.mpr (yle rfl)))⟩ (d6 ⟨⟨hN,hc,hn⟩,.inl (.inl neg)⟩ (d6 ⟨⟨h7,hB,hn⟩,.inr (.inl (.inr big))⟩ (d6 ⟨⟨h7,hc,hB⟩,.inr (.inr (.inr big))⟩ (d6 ⟨⟨h7,hN,hn⟩,.inr (.inl (.inl neg))⟩ (d6 ⟨⟨h7,hc,hN⟩,.inr (.inr (.inl neg))⟩ fT)))))
variable {d:Nat} {σ:aN} {Q:V→aN→Prop} {X:Ex→aN→Prop} {jt ja:Nat} {t:List Int}
theorem cmds_wrong {v9 v10:Option V} (D:Dr t jt ja σ) (C:Cd c n key val ex) (hx:x < 4096) (h:∀σ',Q (.bool true) σ'):
  wpSs (wpCall (d+12)) (gE.tl 13) [some (.obj jt),some (.obj ja),some (.int x),some (.int c),some (.int n),some (.bytes key),some (.bytes val),some (fV ex),some (.tup [.int (x % 7:Nat),.int c,.int n,.bytes key,.bytes val,fV ex]),v9,v10,none,none,none,none,none,none,none] σ (mV Q) (exK X):=by
 refine sA (Ev.run (b8 aH (aB rfl) cE) (sF rfl (Ev.run (fJ (aD (fJ (aD (b8 aH (aB rfl) cE) (aD (aB rfl) (aD (aB rfl) aG))) rfl) (aD (fJ (aD (b8 (ev_ng aH) (aB rfl) b_sub) (aD (aB rfl) (aD (aB rfl) aG))) rfl) (aD (fJ (aD (cQ (aB rfl) aH rfl) (aD (aB rfl) (aD (aB rfl) aG))) rfl) (aD (fJ (aD (cQ (aB rfl) aH rfl) (aD (aB rfl) (aD (aB rfl) aG))) rfl) (aD (fJ (aD (cQ (aB rfl) aH rfl) (aD (b8 (ev_ng aH) (aB rfl) b_sub) (aD (aB rfl) aG))) rfl) (aD (fJ (aD (cQ (aB rfl) aH rfl) (aD (aB rfl) (aD (b8 (ev_ng aH) (aB rfl) b_sub) aG))) rfl) aG)))))) rfl) ?_)))
 refine pFt (f:=triV) (xs:=[(((7+x:Nat):Int),(c:Int),(n:Int)),(-1 - (x:Int),(c:Int),(n:Int)),(((x % 7:Nat):Int),((18446744073709551616+x:Nat):Int),(n:Int)),(((x % 7:Nat):Int),(c:Int),((18446744073709551616+x:Nat):Int)),(((x % 7:Nat):Int),-1 - (x:Int),(n:Int)),(((x % 7:Nat):Int),(c:Int),-1 - (x:Int))]) (fun _ _ m σ'=>∃t,m=[some (.obj jt),some (.obj ja),some (.int x),some (.int c),some (.int n),some (.bytes key),some (.bytes val),some (fV ex),some (.tup [.int (x % 7:Nat),.int c,.int n,.bytes key,.bytes val,fV ex]),v9,v10,some (.int ((18446744073709551616+x:Nat):Int)),t,none,none,none,none,none]∧σ <+:σ') ⟨none,rfl,dM⟩ (fun m σ' hI=>?_) fun a y b e R hR m σ' hI=>?_
 ·obtain ⟨t,rfl,p⟩:=hI
  exact cmds_reply (D.pre p) C.c C.n C.e h
 ·obtain ⟨t,rfl,p⟩:=hI
  have z:=rfs C hx y (e▸a8 _ (.head _))
  refine bd (m':=[some (.obj jt),some (.obj ja),some (.int x),some (.int c),some (.int n),some (.bytes key),some (.bytes val),some (fV ex),some (.tup [.int (x % 7:Nat),.int c,.int n,.bytes key,.bytes val,fV ex]),v9,v10,some (.int ((18446744073709551616+x:Nat):Int)),some (.tup [.int y.1,.int y.2.1,.int y.2.2]),none,none,none,none,none]) rfl ?_
  refine sI (t_noc (t_val rfl (aP (aD (fJ (aD (cQ (aB rfl) aH rfl) (aD (cQ (aB rfl) aH rfl) (aD (cQ (aB rfl) aH rfl) (aD (aB rfl) (aD (aB rfl) (aD (aB rfl) aG)))))) rfl) aG) ?_)))
  refine c_law_refused z.1 z.2 fun s p2=>?_
  refine p_tb (p_noT (pI0 (s0 ?_)))
  exact hR _ _ ⟨_,rfl,p.trans p2⟩
theorem cmds_read (D:Dr t jt ja σ) (C:Cd c n key val ex) (hx:x < 4096) (h:∀σ',Q (.bool true) σ'):
  wpSs (wpCall (d+12)) (gE.tl 8) [some (.obj jt),some (.obj ja),some (.int x),some (.int c),some (.int n),some (.bytes key),some (.bytes val),some (fV ex),some (.tup [.int (x % 7:Nat),.int c,.int n,.bytes key,.bytes val,fV ex]),some (.bytes (hG (x % 7) c n key val ex)),none,none,none,none,none,none,none,none] σ (mV Q) (exK X):=by
 have k7:=six (@seven x)
 have W:=C.wh k7
 have E:=C.dat k7 C.ho C.hb
 have L:=C.len k7 C.ho
 have z:=mD L rfl
 have l0:0 < (hG (x % 7) c n key val ex).length:=kC.mpr (fB (fB (fB (fB (fB (gT _))))))
 have pv:V.pure 20 (.tup [.int (x % 7:Nat),.int c,.int n,.bytes key,.bytes val,fV ex])=true:=by
  show (true && (true && (true && (true && (true && (V.pure 19 (fV ex) && true))))))=true
  rw [optV_pure];rfl
 refine sI (t_orc (eP (Ev.run (aB rfl) (aP (aD (aB rfl) aG) ?_))))
 refine iM k7 C.c C.n C.k.l C.v.l C.ho fun s1 p1=>?_
 refine eI.rF c_neB (p_orF (eP (aP (aD (aB rfl) aG) ?_)))
 refine reads_cmd (v:=.tup [.int (x % 7:Nat),.int c,.int n,.bytes key,.bytes val,fV ex]) E (.ok W.ok ((if_neg (bK.mpr seven)).mpr rfl)) _ _ _ _ fun s2 p2=>?_
 refine Ev.run (aB rfl) (eI.rF (c_neT pv) (pI0 (sF rfl (aP (aD (gM (aB rfl)) (aD (aB rfl) aG)) ?_))))
 refine c_law_cuts l0 ?_
 refine pFo (f:=cU) (xs:=[x % (hG (x % 7) c n key val ex).length,(hG (x % 7) c n key val ex).length - 1]) (fun a b m σ'=>∃t,m=[some (.obj jt),some (.obj ja),some (.int x),some (.int c),some (.int n),some (.bytes key),some (.bytes val),some (fV ex),some (.tup [.int (x % 7:Nat),.int c,.int n,.bytes key,.bytes val,fV ex]),some (.bytes (hG (x % 7) c n key val ex)),t,none,none,none,none,none,none,none]∧s2++[.list ([x % (hG (x % 7) c n key val ex).length,(hG (x % 7) c n key val ex).length - 1].map cU)] <+:σ') ⟨none,rfl,dM⟩ (fun a b m σ' hI=>?_) (fun m σ' hI=>?_) fun a i b e R hR m σ' hI=>?_
 ·obtain ⟨_,_,p⟩:=hI
  exact bZ p aQ
 ·obtain ⟨t,rfl,p⟩:=hI
  have D3:=D.pre ((p1.trans p2).trans ((aW _ _).trans p))
  refine sI (eP (cM (dW (cR (Ev.run (aB rfl) (fH (eA (aD (b8 (aB rfl) aH (dU (by decide))) aG) rfl ?_)))))))
  refine w_by1 (N:=4000) (mod_lt rfl) L rfl (dM) fun s3 p3 _=>?_
  refine iB.run aG ?_
  refine no_cmd (E.snoc z (mod_lt rfl)) (W.lg _) _ _ _ _ fun s4 p4=>?_
  refine Ev.run eW (eI.rF fA (pI0 (sI (eP (cM (dW (aP (aD (fJ (aD (b8 aH (aB rfl) cE) (aD (aB rfl) (aD (aB rfl) (aD (aB rfl) (aD (aB rfl) (aD (aB rfl) aG)))))) rfl) aG) ?_)))))))
  refine iM (kx hx) C.c C.n C.k.l C.v.l C.ho fun s5 p5=>?_
  refine iB.run aG ?_
  refine reads_cmd (C.dat (kx hx) C.ho C.hb) (.ok (C.wh (kx hx)).ok ((if_pos (yle rfl)).mpr rfl)) _ _ _ _ fun s6 p6=>?_
  refine Ev.run eW (eI.rF fA (pI0 (sI (eP (cM (dW (cR (e_slc (aP (aD (fJ (aD (cQ (aB rfl) aH rfl) (aD (aB rfl) (aD (aB rfl) (aD (aB rfl) (aD (aB rfl) (aD eW aG)))))) rfl) aG) ?_)))))))))
  refine iM (ex:=none) k7 C.c C.n C.k.l C.v.l no_opt fun s7 p7=>?_
  refine p_last (l:=groups (x % 7)++groups c++groups n++lenB key++lenB val) (a:=0) ?_
  refine fH (eA (aD (b8 aH (b8 (aB rfl) aH (dU (by decide))) cE) aG) rfl ?_)
  refine w_by1 (N:=4000) (y256 rfl rfl) (aA (d8 _ _).length_le (C.len (o:=none) k7 no_opt)) rfl (dM) fun s8 p8 _=>?_
  refine iB.run aG ?_
  have B:=C.dat (o:=none) k7 no_opt fun _ h=>nomatch h
  refine no_cmd ((B.pre (d8 _ _)).snoc (mD (aA (d8 _ _).length_le (C.len (o:=none) k7 no_opt)) rfl) (y256 rfl rfl)) (C.flag k7 (yle rfl)) _ _ _ _ fun s9 p9=>?_
  refine Ev.run eW (eI.rF fA (pI0 ?_))
  exact cmds_wrong (D3.pre (((((p3.trans p4).trans p5).trans p6).trans p7).trans (p8.trans p9))) C hx h
 ·obtain ⟨t,rfl,p⟩:=hI
  have hn:i < (hG (x % 7) c n key val ex).length:=(d6 (P:=fun i=>i < (hG (x % 7) c n key val ex).length) (fX _ l0) (d6 (Nat.sub_lt l0 lD) fT)) i (e▸a8 _ (.head _))
  refine bd rfl (sI (eP (aP (aD (ev_pre rfl rfl) aG) ?_)))
  refine no_cmd (E.pre (List.take_prefix i _)) (W.off (.inl ⟨i,hn,rfl⟩)) _ _ _ _ fun s3 p3=>?_
  refine Ev.run eW (eI.rF fA (pI0 (s0 ?_)))
  exact hR _ _ ⟨some (cU i),rfl,p.trans p3⟩
theorem c_law_commands (D:Dr t jt ja σ) (h:∀σ',Q (.bool true) σ'):wpCall (d+13) .law_commands [.obj jt,.obj ja] σ Q X:=by
 refine ent [some (.obj jt),some (.obj ja),none,none,none,none,none,none,none,none,none,none,none,none,none,none,none,none] rfl rfl ?_
 refine sA (aP (aD (aB rfl) (aD (aB rfl) (aD aH aG))) ?_)
 refine hH (m:=4096) D (by decide) fun x hx s1 f1 D1=>?_
 refine sA (aP (aD (aB rfl) (aD (aB rfl) aG)) ?_)
 refine nY D1 fun c hc s2 f2 D2=>?_
 refine sA (aP (aD (aB rfl) (aD (aB rfl) aG)) ?_)
 refine nY D2 fun n hn s3 f3 D3=>?_
 refine sA (aP (aD (aB rfl) (aD (aB rfl) (aD aH aG))) ?_)
 refine d_octs (most:=4) D3 (by decide) fun key hk s4 f4 D4=>?_
 refine sA (cR (aP (aD (aB rfl) (aD (aB rfl) (aD aH aG))) ?_))
 refine d_octs (most:=5) D4 (by decide) fun vb hv s5 f5 D5=>?_
 refine cR (Ev.run aH (cR (Ev.run aH (aP (aD (aB rfl) (aD (aB rfl) (aD aH aG))) ?_))))
 refine hH (m:=2) D5 (by decide) fun w hw s6 f6 D6=>?_
 have lw:vb.length*(1+29*w)≤150:=Nat.mul_le_mul hv.l (aT (gU 29 (bE hw)) 1)
 refine gF.run (b_mulN (by decide)) (gF.run cE ?_)
 refine (b_rep (aA hv.l (LE rfl)) (jK lw rfl) (aA (aT (gU 29 (bE hw)) 1) (LE rfl))).run ?_
 refine sA (aP (aD (aB rfl) (aD (aB rfl) (aD aH aG))) ?_)
 refine d_maybe (most:=4) D6 (by decide) fun ex ho s7 f7 D7=>?_
 have C:Cd c n key (rep vb (1+29*w)) ex:=⟨hc,hn,⟨aA hk.l (LE rfl),hk.b⟩,⟨by rw [rep_len];exact aA lw (LE rfl),rep_256 hv.b⟩,ho⟩
 refine sA (Ev.run (fJ (aD (b8 (aB rfl) aH (dU (by decide))) (aD (aB rfl) (aD (aB rfl) (aD (aB rfl) (aD (aB rfl) (aD (aB rfl) aG)))))) rfl) (sA (mC (eQ (aD (cQ (aB rfl) aH rfl) (aD (aB rfl) (aD (aB rfl) (aD (aB rfl) (aD (aB rfl) (aD (aB rfl) aG)))))) ?_))))
 refine m9 (nq ?_)
 have g:(s7++[cmdO ((x % 7:Nat):Int) c n key (rep vb (1+29*w)) ex])[s7.length]? =some (cmdO ((x % 7:Nat):Int) c n key (rep vb (1+29*w)) ex):=aQ
 refine p_meth g rfl aG ?_
 refine c_Command_encode g seven hc hn C.k.l C.v.l C.ho fun s8 p8=>?_
 refine sI (t_orc (eP (Ev.run (aB rfl) (aP (aD (aB rfl) aG) ?_))))
 exact cmds_read (D7.pre ((aW _ _).trans p8)) C hx h
end
end
section
structure eN.Dn (e:eN):Prop where
 ok:e.Ok
 k02:e.k=0∨e.k=2
 b:eE e.d
 s:e.d.length≤150
theorem kN.fr {ja:Nat} {σ σ':aN} {k:Nat} {c:Cf} (h:kN (ja+1) σ k c) (f:Fr ja σ σ'):kN (ja+1) σ' k c:=h.imp fun i o l _ e=>f i o (cJ l) e
theorem lZ.fr {ja:Nat} {σ σ':aN} {k:Nat} {s:Sn} (h:lZ (ja+1) σ k s) (f:Fr ja σ σ'):lZ (ja+1) σ' k s:=h.imp fun i o l _ e=>f i o (cJ l) e
structure Sn.Dn (s:Sn):Prop where
 i:s.i≤18446744073709551615
 t:s.t≤18446744073709551615
 v:jV s.c.v
 l:jV s.c.l
 o:jV s.c.o
 n:jV s.c.n
 d:Oc 5 s.d
structure Ch.Dn (c:Ch):Prop where
 tr:c.tr < 3
 len:c.cs.length≤3
 le:∀p∈c.cs,p.1≤3∧p.2≤18446744073709551615
 z:Oc 4 c.cx
theorem Sn.Dn.ok {s:Sn} (h:s.Dn):s.Ok:=⟨h.i,h.t,⟨h.v.ok,h.l.ok,h.o.ok,h.n.ok⟩,aA h.d.l (LE rfl)⟩
theorem jV.ris {ids:List Nat} (h:jV ids):kT [] ids=true:=by
 obtain ⟨x,hx,rfl⟩:=h
 have:∀x,x < 16→kT [] (subN x 4)=true:=by decide
 exact this x hx
theorem Sn.Dn.ris {s:Sn} (h:s.Dn):s.c.Ris:=⟨h.v.ris,h.l.ris,h.o.ris,h.n.ris⟩
theorem jV.l8 {ids:List Nat} (h:jV ids):ids.length≤8:=aA h.len (LE rfl)
section
variable {d:Nat} {σ:aN} {K:Fl→Lo→aN→Prop} {X:Ex→Lo→aN→Prop} {jt ja:Nat} {t:List Int}
noncomputable abbrev lo28 (jt ja:Nat) (l:Lo):Lo:=some (.obj jt)::some (.obj ja)::l
theorem min_n (a n:Nat):min (a:Int) (n:Int)=((min a n:Nat):Int):=by
 rcases Nat.le_total a n with h | h
 ·rw [kK h,oO (cC.mpr h)]
 ·rw [Nat.min_eq_right h,Int.min_eq_right (cC.mpr h)]
theorem ev_cnt {m:Lo} {p k:Nat} {vs:List V} (g:cD m 0=some (.obj p)) (h:σ[p]? =some (.list vs)):Ev m σ (.bin .add (.blt .min (.cons (.cI k) (.cons (.bin .fdiv (.blt .len (.cons (.loc 0) .nil)) (.cI 4)) .nil))) (.cI 1)) (.int ((min k (vs.length / 4)+1:Nat):Int)):=
 b8 ((ev_mi aH (b8 (ev_lo (aB g) h) (aH (i:=((4:Nat):Int))) (kA (by decide) (by decide)))).cast (congrArg V.int (min_n k _))) (aH (i:=((1:Nat):Int))) cE
theorem Dr.ne {t:List Int} {jt ja:Nat} {σ:aN} (D:Dr t jt ja σ) {a:AO}:ja≠(σ++[a]).length:=cJ (aJ D.lt (aW _ _).length_le)
noncomputable abbrev rowsO (es:List eN):AO:=.list (es.map eN.row)
theorem raft_a (D:Dr t jt ja σ) (h:∀(x r:Nat) (es:List eN) (v4 v5 v6:Option V) σ',x < 4096→es.length≤2→(∀e∈es,e.Dn)→σ'[r]? =some (rowsO es)→ja≠r→Dr t jt ja σ'→
   wpSs (wpCall (d+12)) (bW.tl 3) (lo28 jt ja [some (.int x),some (.obj r),v4,v5,v6,none,none,none,none,none,none,none,none,none,none,none,none,none,none,none,none,none,none,none,none,none]) σ' K X):
  wpSs (wpCall (d+12)) bW (lo28 jt ja [none,none,none,none,none,none,none,none,none,none,none,none,none,none,none,none,none,none,none,none,none,none,none,none,none,none]) σ K X:=by
 refine sA (aP (aD (aB rfl) (aD (aB rfl) (aD aH aG))) ?_)
 refine hH (m:=4096) D (by decide) fun x hx s1 f1 D1=>?_
 refine sA (eA aG rfl ?_)
 have D2:=D1.pre (aW s1 [.list []])
 refine sFr (aP (aD (aB rfl) (aD (aB rfl) (aD (ev_cnt rfl D2.ht) aG))) ?_)
 refine hH D2 (fM _) fun n hn s3 f3 D3=>?_
 have hn2:n≤2:=aA (bE hn) (Nat.min_le_left _ _)
 refine pRg (aA hn2 (LE rfl)) (fun j m σ'=>∃(r:Nat) (es:List eN) (v4 v5 v6:Option V),m=lo28 jt ja [some (.int x),some (.obj r),v4,v5,v6,none,none,none,none,none,none,none,none,none,none,none,none,none,none,none,none,none,none,none,none,none]∧es.length=j∧(∀e∈es,e.Dn)∧σ'[r]? =some (rowsO es)∧ja≠r∧Dr t jt ja σ') ⟨s1.length,[],none,none,none,rfl,rfl,fT (P:=eN.Dn),f3 _ _ (cJ D1.lt) aQ,cJ D1.lt,D3⟩ (fun m σ' hI=>?_) fun j hj R hR m σ' hI=>?_
 ·obtain ⟨r,es,v4,v5,v6,rfl,hl,hE,hr,ne,D4⟩:=hI
  exact h x r es v4 v5 v6 σ' hx (hl▸hn2) hE hr ne D4
 ·obtain ⟨r,es,v4,v5,v6,rfl,hl,hE,hr,ne,D4⟩:=hI
  refine bd rfl ?_
  refine sA (aP (aD (aB rfl) (aD (aB rfl) aG)) ?_)
  refine nY D4 fun tm htm s5 f5 D5=>?_
  refine sA (aP (aD (aB rfl) (aD (aB rfl) aG)) ?_)
  refine nY D5 fun ix hix s6 f6 D6=>?_
  refine sA (cR (Ev.run (aB rfl) (e_lstc (dW (lR (dW (Ev.run (aB rfl) (dW (Ev.run (aB rfl) (dW (cR (Ev.run aH (aP (aD (aB rfl) (aD (aB rfl) (aD aH aG))) ?_)))))))))))))
  refine hH (m:=2) D6 (by decide) fun k hk s7 f7 D7=>?_
  refine gF.run (b_mulN (by decide)) (dW (cR (aP (aD (aB rfl) (aD (aB rfl) (aD aH aG))) ?_)))
  refine d_octs (most:=5) D7 (by decide) fun vb hv s8 f8 D8=>?_
  refine cR (Ev.run aH (cR (Ev.run aH (cR (aP (aD (aB rfl) (aD (aB rfl) (aD aH aG))) ?_)))))
  refine hH (m:=2) D8 (by decide) fun w hw s9 f9 D9=>?_
  have j3:j+1≤3:=bX (b6 (aJ hj hn2))
  have lw:1+29*(w / (j+1))≤30:=aT (gU 29 (aA (Nat.div_le_self _ _) (bE hw))) 1
  have lv:vb.length*(1+29*(w / (j+1)))≤150:=Nat.mul_le_mul hv.l lw
  have hd:0 < j+1:=fM j
  have hd2:j+1 < 2 ^ 100:=aS j3 (by decide)
  refine Ev.run (b8 (aB rfl) aH cE) (gF.run (kA hd hd2) (gF.run (b_mulN (by decide)) (gF.run cE ?_)))
  refine (b_rep (aA hv.l (LE rfl)) (jK lv rfl) (aA lw (LE rfl))).run ?_
  have hr9:=f9 _ _ ne (f8 _ _ ne (f7 _ _ ne (f6 _ _ ne (f5 _ _ ne hr))))
  refine iB.run aG (p_tu rfl (iB.run aG (p_ls rfl ?_)))
  refine p_addL (cL hr9) aQ (by rw [aK,hl];exact aA j3 (LE rfl)) ?_
  refine s0 ?_
  have ld:(rep vb (1+29*(w / (j+1)))).length≤150:=by rw [rep_len];exact lv
  have en:eN.Dn ⟨tm,ix,2*k,rep vb (1+29*(w / (j+1)))⟩:=⟨⟨htm,hix,aA (gU 2 (bE hk)) (LE rfl),aA ld (LE rfl)⟩,(Nat.le_one_iff_eq_zero_or_eq_one.mp (bE hk)).imp (congrArg (2*·)) (congrArg (2*·)),rep_256 hv.b,ld⟩
  exact hR _ _ ⟨_,es++[⟨tm,ix,2*k,rep vb (1+29*(w / (j+1)))⟩],_,_,_,rfl,by rw [aF,hl];rfl,all_a hE (d6 en fT),by rw [rowsO,bI];exact aQ,D9.ne,D9.pre ((aW _ _).trans (aW _ _))⟩
structure Pl (ja:Nat) (σ:aN) (kc ks:Nat) (s:Sn):Prop where
 c:kN (ja+1) σ kc s.c
 s:lZ (ja+1) σ ks s
theorem Pl.fr {ja:Nat} {σ σ':aN} {kc ks:Nat} {s:Sn} (h:Pl ja σ kc ks s) (f:Fr ja σ σ'):Pl ja σ' kc ks s:=⟨h.c.fr f,h.s.fr f⟩
theorem raft_b {x r:Nat} {v4 v5 v6:Option V} (D:Dr t jt ja σ) (h:∀(s:Sn) (kc ks:Nat) σ',s.Dn→Fr ja σ σ'→Pl ja σ' kc ks s→Dr t jt ja σ'→
   wpSs (wpCall (d+12)) (bW.tl 7) (lo28 jt ja [some (.int x),some (.obj r),v4,v5,v6,some s.c.row,some (.obj kc),some s.row,some (.obj ks),none,none,none,none,none,none,none,none,none,none,none,none,none,none,none,none,none]) σ' K X):
  wpSs (wpCall (d+12)) (bW.tl 3) (lo28 jt ja [some (.int x),some (.obj r),v4,v5,v6,none,none,none,none,none,none,none,none,none,none,none,none,none,none,none,none,none,none,none,none,none]) σ K X:=by
 refine sA (aP (aD (aB rfl) (aD (aB rfl) aG)) ?_)
 refine c_law_conf D fun v l o n hv hl ho hn b s1 f1 D1=>?_
 refine sA (e_newc (dW (aP (aD (cQ (aB rfl) aH rfl) aG) ?_)))
 refine n9 hv.l8 fun s2 k2 p2 i2=>?_
 refine dW (aP (aD (cQ (aB rfl) aH rfl) aG) ?_)
 refine n9 hl.l8 fun s3 k3 p3 i3=>?_
 refine dW (aP (aD (cQ (aB rfl) aH rfl) aG) ?_)
 refine n9 ho.l8 fun s4 k4 p4 i4=>?_
 refine dW (aP (aD (cQ (aB rfl) aH rfl) aG) ?_)
 refine n9 hn.l8 fun s5 k5 p5 i5=>?_
 have p15:=((p2.trans p3).trans p4).trans p5
 refine iB.run (aD (cQ (aB rfl) aH rfl) aG) ?_
 refine j7 (c:=⟨v,l,o,n,b⟩) (bZ ((p3.trans p4).trans p5) i2) (bZ (p4.trans p5) i3) (bZ p5 i4) i5 hv.rises hl.rises ho.rises hn.rises fun s6 p6 cf6=>nq ?_
 have p16:=p15.trans p6
 have c6:=cf6.low (aA D1.lt p15.length_le)
 refine sA (lR (dW (aP (aD (aB rfl) (aD (aB rfl) aG)) ?_)))
 refine nY (D1.pre p16) fun si hsi s7 f7 D7=>?_
 refine dW (aP (aD (aB rfl) (aD (aB rfl) aG)) ?_)
 refine nY D7 fun st hst s8 f8 D8=>?_
 refine dW (Ev.run (aB rfl) (dW (aP (aD (aB rfl) (aD (aB rfl) (aD aH aG))) ?_)))
 refine d_octs (most:=5) D8 (by decide) fun sd hsd s9 f9 D9=>?_
 have f69:=(f7.trans f8).trans f9
 have c9:=c6.fr f69
 refine iB.run aG (p_tu rfl (sA (eQ (aD (cQ (aB rfl) aH rfl) (aD (cQ (aB rfl) aH rfl) (aD (aB rfl) (aD (cQ (aB rfl) aH rfl) aG)))) ?_)))
 refine k8 (s:=⟨si,st,⟨v,l,o,n,b⟩,sd⟩) (nq ?_)
 exact h ⟨si,st,⟨v,l,o,n,b⟩,sd⟩ s5.length s9.length _ ⟨hsi,hst,hv,hl,ho,hn,hsd⟩ ((f1.trans (.of_pre p16)).trans (f69.trans (.of_pre (aW _ _)))) ⟨c9.mono (aW _ _),⟨s5.length,aQ,c9.mono (aW _ _),D9.lt⟩⟩ (D9.pre (aW _ _))
end
end
section
noncomputable def snOf (x:Nat) (s:Sn):Option Sn:=if 0 < x % 3 then some s else none
theorem snOf_some {x:Nat} {s s':Sn} (h:snOf x s=some s'):s=s':=by
 unfold snOf at h
 by_cases q:0 < x % 3
 ·rw [if_pos q] at h;exact Option.some.inj h
 ·rw [if_neg q] at h;exact nomatch h
structure Ms.Dn (m:Ms) (x:Nat) (es:List eN) (s:Sn):Prop where
 k:m.k < 21
 hd:∀y∈m.hd,y≤18446744073709551615
 es:m.es=es
 sn:m.sn=snOf x s
 c:Oc 4 m.cx
theorem getD_all (l:List Nat):l=(List.range l.length).map fun i=>l.getD i 0:=by
 apply List.ext_getElem
 ·rw [aK,eH]
 ·intro i h1 h2
  rw [List.getElem_map,lA,jO,c5 h1]
  rfl
theorem seven_of {l:List Nat} (h:l.length=7):∃a b c d e f g,l=[a,b,c,d,e,f,g]:=
 ⟨_,_,_,_,_,_,_,(getD_all l).trans (congrArg (fun n=>(List.range n).map fun i=>l.getD i 0) h)⟩
noncomputable abbrev natsO (l:List Nat):AO:=.list (l.map cU)
section
variable {d:Nat} {σ:aN} {K:Fl→Lo→aN→Prop} {X:Ex→Lo→aN→Prop} {jt ja:Nat} {t:List Int}
theorem ev_sn {m:Lo} {x:Nat} {s:Sn} (g2:cD m 2=some (.int x)) (g9:cD m 9=some s.row):Ev m σ (.ife (.cmp .gt (.bin .mod (.loc 2) (.cI 3)) (.cI 0)) (.loc 9) .cN) (nQ (snOf x s)):=by
 have e:Ev m σ (.bin .mod (.loc 2) (.cI 3)) (.int ((x % 3:Nat):Int)):=b8 (aB g2) (aH (i:=((3:Nat):Int))) (dU (by decide))
 unfold snOf
 by_cases q:0 < x % 3
 ·rw [if_pos q];exact ev_ift (dH e aH (eS (decide_eq_true (bH.mpr q)))) (aB g9)
 ·rw [if_neg q];exact ev_iff (dH e aH (eS (decide_eq_false (nlt (p:=0) q)))) eW
theorem raft_c1 {x r kc ks:Nat} {s:Sn} {v4 v5 v6:Option V} (D:Dr t jt ja σ) (h:∀(cs:List PN) (lc:Nat) (v4 v12:Option V) σ',cs.length≤3→(∀p∈cs,p.1≤3∧p.2≤18446744073709551615)→σ'[lc]? =some (prsO cs)→ja≠lc→Fr ja σ σ'→Dr t jt ja σ'→
   wpSs (wpCall (d+12)) (bW.tl 9) (lo28 jt ja [some (.int x),some (.obj r),v4,v5,v6,some s.c.row,some (.obj kc),some s.row,some (.obj ks),some (.obj lc),v12,none,none,none,none,none,none,none,none,none,none,none,none,none,none,none]) σ' K X):
  wpSs (wpCall (d+12)) (bW.tl 7) (lo28 jt ja [some (.int x),some (.obj r),v4,v5,v6,some s.c.row,some (.obj kc),some s.row,some (.obj ks),none,none,none,none,none,none,none,none,none,none,none,none,none,none,none,none,none]) σ K X:=by
 refine sA (eA aG rfl ?_)
 have D2:=D.pre (aW σ [.list []])
 refine sFr (aP (aD (aB rfl) (aD (aB rfl) (aD (ev_cnt rfl D2.ht) aG))) ?_)
 refine hH D2 (fM _) fun n hn s3 f3 D3=>?_
 have hn3:n≤3:=aA (bE hn) (Nat.min_le_left _ _)
 have F3:=(Fr.of_pre (aW σ [.list []])).trans f3
 refine pRg (aA hn3 (LE rfl)) (fun j m σ'=>∃(lc:Nat) (cs:List PN) (v4 v12:Option V),m=lo28 jt ja [some (.int x),some (.obj r),v4,v5,v6,some s.c.row,some (.obj kc),some s.row,some (.obj ks),some (.obj lc),v12,none,none,none,none,none,none,none,none,none,none,none,none,none,none,none]∧cs.length=j∧(∀p∈cs,p.1≤3∧p.2≤18446744073709551615)∧σ'[lc]? =some (prsO cs)∧ja≠lc∧Fr ja σ σ'∧Dr t jt ja σ') ⟨σ.length,[],v4,none,rfl,rfl,fT (P:=fun p:PN=>p.1≤3∧p.2≤18446744073709551615),f3 _ _ (cJ D.lt) aQ,cJ D.lt,F3,D3⟩ (fun m σ' hI=>?_) fun j hj R hR m σ' hI=>?_
 ·refine hide fun Gx hGx=>?_
  obtain ⟨lc,cs,v4,v12,rfl,hl,hE,hr,nc,F4,D4⟩:=hI
  refine hGx ?_
  exact h cs lc v4 v12 σ' (hl▸hn3) hE hr nc F4 D4
 ·refine hide fun Gx hGx=>?_
  obtain ⟨lc,cs,v4,v12,rfl,hl,hE,hr,nc,F4,D4⟩:=hI
  refine hGx ?_
  refine bd rfl ?_
  refine sA (aP (aD (aB rfl) (aD (aB rfl) (aD aH aG))) ?_)
  refine hH (m:=4) D4 (by decide) fun kd hkd s5 f5 D5=>?_
  refine sA (cR (Ev.run (aB rfl) (e_lstc (dW (lR (dW (Ev.run (aB rfl) (dW (aP (aD (aB rfl) (aD (aB rfl) aG)) ?_)))))))))
  refine nY D5 fun nid hnid s6 f6 D6=>?_
  have hr6:=f6 _ _ nc (f5 _ _ nc hr)
  refine iB.run aG (p_tu rfl (iB.run aG (p_ls rfl ?_)))
  refine p_addL (cL hr6) aQ (by rw [aK,hl];exact aA (Nat.succ_le_of_lt (aJ hj hn3)) (LE rfl)) ?_
  refine s0 ?_
  exact hR _ _ ⟨_,cs++[(kd,nid)],_,_,rfl,by rw [aF,hl];rfl,all_a hE (d6 (P:=fun p:PN=>p.1≤3∧p.2≤18446744073709551615) ⟨bE hkd,hnid⟩ fT),by rw [prsO,bI];exact aQ,D6.ne,(F4.trans f5).trans (f6.trans (.of_pre ((aW _ _).trans (aW _ _)))),D6.pre ((aW _ _).trans (aW _ _))⟩
theorem raft_c2 {x r kc ks lc:Nat} {es:List eN} {s:Sn} {cs:List PN} {v4 v5 v6 v12:Option V} (D:Dr t jt ja σ) (hcs:cs.length≤3) (hE:∀p∈cs,p.1≤3∧p.2≤18446744073709551615) (hr:σ[r]? =some (rowsO es)) (ne:ja≠r) (hl:σ[lc]? =some (prsO cs)) (nc:ja≠lc) (h:∀(g:Ch) (m:Ms) (lh:Nat) σ',g.Dn→g.cs=cs→m.Dn x es s→σ'[lh]? =some (natsO m.hd)→Fr ja σ σ'→
   wpSs (wpCall (d+12)) (bW.tl 13) (lo28 jt ja [some (.int x),some (.obj r),v4,v5,v6,some s.c.row,some (.obj kc),some s.row,some (.obj ks),some (.obj lc),v12,some g.row,some (.obj lh),some (nQ m.sn),some m.lrow,none,none,none,none,none,none,none,none,none,none,none]) σ' K X):
  wpSs (wpCall (d+12)) (bW.tl 9) (lo28 jt ja [some (.int x),some (.obj r),v4,v5,v6,some s.c.row,some (.obj kc),some s.row,some (.obj ks),some (.obj lc),v12,none,none,none,none,none,none,none,none,none,none,none,none,none,none,none]) σ K X:=by
 refine sA (lR (dW (aP (aD (aB rfl) (aD (aB rfl) (aD aH aG))) ?_)))
 refine hH (m:=3) D (by decide) fun tr htr s5 f5 D5=>?_
 have hl5:=f5 _ _ nc hl
 refine dW (Ev.run (oW (aB rfl) hl5) (dW (aP (aD (aB rfl) (aD (aB rfl) (aD aH aG))) ?_)))
 refine d_octs (most:=4) D5 (by decide) fun gc hg s6 f6 D6=>?_
 refine iB.run aG (p_tu rfl (sA (cR (e_lstc (dW (aP (aD (aB rfl) (aD (aB rfl) (aD aH aG))) ?_))))))
 refine hH (m:=21) D6 (by decide) fun k hk s7 f7 D7=>?_
 refine iB.run aG (p_ls rfl (eCr (Ev.run aH ?_)))
 refine pCrG (n:=7) (LE rfl) (fun j acc σ'=>∃hs:List Nat,acc=hs.map cU∧hs.length=j∧(∀y∈hs,y≤18446744073709551615)∧Fr ja (s7++[.list [.int k]]) σ'∧Dr t jt ja σ') ⟨[],rfl,rfl,fT (P:=fun y=>y≤18446744073709551615),.of_pre dM,D7.pre (aW _ _)⟩ (fun acc σ' hI=>?_) fun j hj acc R hR σ' hI=>?_
 ·refine hide fun Gx hGx=>?_
  obtain ⟨hs,rfl,hN,hle,f8,D8⟩:=hI
  obtain ⟨to,fr,tm,lt,ix,cm,hn,rfl⟩:=seven_of hN
  refine hGx ?_
  refine ⟨LE rfl,p_addL (cL (f8 _ _ (cJ D7.lt) aQ)) aQ (LE rfl) ?_⟩
  have F8:Fr ja σ σ':=((f5.trans f6).trans f7).trans ((Fr.of_pre (aW _ _)).trans f8)
  have gr:=F8 _ _ ne hr
  refine sA ((ev_sn (s:=s) rfl rfl).run ?_)
  refine sA (lR (dW (Ev.run (oW (aB rfl) aQ) (dW (Ev.run (ev_c (b8 (b8 (aB rfl) aH (kA (by decide) (by decide))) aH (dU (by decide))) aH (dR rfl)) (dW (Ev.run (oW (aB rfl) (cL (cL gr))) (dW (Ev.run (aB rfl) (dW (aP (aD (aB rfl) (aD (aB rfl) (aD aH aG))) ?_)))))))))))
  refine d_octs (most:=4) (D8.pre ((aW _ _).trans (aW _ _))) (by decide) fun cx hc s9 f9 D9=>?_
  refine iB.run aG (p_tu rfl ?_)
  exact h ⟨tr,cs,gc⟩ ⟨k,to,fr,tm,lt,ix,cm,hn,_,es,snOf x s,cx⟩ _ s9 ⟨htr,hcs,hE,hg⟩ rfl ⟨hk,d6 (aA (b6 hk) (LE rfl)) hle,rfl,rfl,hc⟩ (f9 _ _ D8.ne aQ) (F8.trans ((Fr.of_pre ((aW _ _).trans (aW _ _))).trans f9))
 ·obtain ⟨hs,rfl,hn,hle,f8,D8⟩:=hI
  refine bdC rfl ?_
  refine aP (aD (aB rfl) (aD (aB rfl) aG)) ?_
  exact nY D8 fun y hy s10 f10 D10=>hR _ _ ⟨hs++[y],by rw [bI];rfl,by rw [aF,hn];rfl,all_a hle (d6 (P:=fun y=>y≤18446744073709551615) hy fT),f8.trans f10,D10⟩
end
end
section
theorem eN.Ok.dat {e:eN} (h:e.Ok) (b:eE e.d):Dat e.enc:=⟨jK (e.length h) rfl,b256_ent b⟩
theorem no_ent {data:List Nat} (D:Dat data) (h:lM (dEnt data)):gR 2 data .none:=reads_ent D (h.r fun _=>rfl)
theorem ent_wh {e:eN} (h:e.Dn):WhR 2 e.enc [.int e.t,.int e.i,.int e.k,.bytes e.d]:=
 .of (whole_ent h.ok h.k02) (h.ok.dat h.b) rfl rfl (kC.mpr (fB (fB (fB (gT _))))) (mD (e.length h.ok) rfl) (fun D q=>reads_ent D (.ok q rfl)) fun _ _ D b=>no_ent D b
theorem dV.set {σ:aN} {i:Nat} {L:List V} {o:AO} {ps:List PE} (hi:σ[i]? =some (.list L)) (h:dV σ ps):dV (σ.set i o) ps:=fun p hp=>cT (h p hp) fun e=>by
 have:=h p hp
 rw [←e,hi] at this
 exact absurd (Option.some.inj this) list_ne
theorem odd_ne (x:Nat):1+x % 9*2≠0∧1+x % 9*2≠2:=
 ⟨by rw [eY];exact Nat.succ_ne_zero _,fun e=>absurd ((Nat.add_mul_mod_self_right 1 (x % 9) 2).symm.trans (congrArg (· % 2) e)) (by decide)⟩
theorem opt_or {α:Type}:∀o:Option α,o=none∨∃a,o=some a
 | none=>.inl rfl
 | some a=>.inr ⟨a,rfl⟩
section
variable {d:Nat} {σ:aN} {K:Fl→Lo→aN→Prop} {X:Ex→Lo→aN→Prop} {jt ja:Nat}
theorem raft_d1 {x r kc ks lc lh:Nat} {s:Sn} {v7 v9 v13:Option V} {m:Ms} {v4 v5 v6 v12:Option V} (hm:m.sn=snOf x s) (hs:jM σ ks s) (hl:σ[lh]? =some (natsO m.hd)) (h:∀sv,SnV σ sv m.sn→
   wpSs (wpCall (d+12)) (bW.tl 21) (lo28 jt ja [some (.int x),some (.obj r),v4,v5,v6,v7,some (.obj kc),v9,some (.obj ks),some (.obj lc),v12,v13,some (.obj lh),some (nQ m.sn),some m.lrow,some (.obj σ.length),none,none,none,none,none,none,none,none,none,none]) (σ++jJ m (σ.length+1) sv::[.list []]) K X):
  wpSs (wpCall (d+12)) (bW.tl 13) (lo28 jt ja [some (.int x),some (.obj r),v4,v5,v6,v7,some (.obj kc),v9,some (.obj ks),some (.obj lc),v12,v13,some (.obj lh),some (nQ m.sn),some m.lrow,none,none,none,none,none,none,none,none,none,none,none]) σ K X:=by
 have g:∀{τ},(σ++τ)[lh]? =some (natsO m.hd):=cL hl
 refine sA (eQ (aD (iL (aB rfl) hl aH rfl) (aD (iL (aB rfl) hl aH rfl) (aD (iL (aB rfl) hl aH rfl) (aD (iL (aB rfl) hl aH rfl) aG)))) ?_)
 refine m8 (k:=m.k) (to:=m.to) (fr:=m.fr) (tm:=m.tm) (nq ?_)
 refine sAt (Ev.run (iL (aB rfl) g aH rfl) (jR (aB rfl) bB rfl dT (sAt (Ev.run (iL (aB rfl) g aH rfl) (jR (aB rfl) bB rfl dT (sAt (Ev.run (iL (aB rfl) g aH rfl) (jR (aB rfl) bB rfl dT (sAt (Ev.run (iL (aB rfl) g aH rfl) (jR (aB rfl) bB rfl dT (sAt (Ev.run (cQ (aB rfl) aH rfl) (jR (aB rfl) bB rfl dT (sAt (Ev.run (cQ (aB rfl) aH rfl) (jR (aB rfl) bB rfl dT ?_)))))))))))))))))
 rcases opt_or m.sn with e | ⟨s',e⟩
 ·refine iV (dH ((aB rfl).cast (congrArg nQ e)) eW fA) ?_
  exact h .none (e▸.no)
 ·obtain rfl:=snOf_some (hm.symm.trans e)
  refine mU (dH ((aB rfl).cast (congrArg nQ e)) eW c_isnT) ?_
  refine sAt (Ev.run (aB rfl) (jR (aB rfl) bB rfl dT (s0q (sF rfl (Ev.run (aB rfl) ?_)))))
  exact h (.obj ks) (e▸.so hs)
theorem raft_d2 {x r ks kc lc lh:Nat} {es:List eN} {v4 v5 v6 v7 v9 v12 v13 v15:Option V} {m:Ms} {sv:V} (hx:x < 4096) (hE:∀e∈es,e.Dn) (hes:es.length≤2) (hm:m.es=es) (hr:σ[r]? =some (rowsO es)) (hsv:SnV σ sv m.sn) (h:∀(v18 v19:Option V) σ',σ <+:σ'→nE σ' σ.length m→
   wpSs (wpCall (d+12)) (bW.tl 22) (lo28 jt ja [some (.int x),some (.obj r),v4,v5,v6,v7,some (.obj kc),v9,some (.obj ks),some (.obj lc),v12,v13,some (.obj lh),v15,some m.lrow,some (.obj σ.length),v18,v19,none,none,none,none,none,none,none,none]) σ' K X):
  wpSs (wpCall (d+12)) (bW.tl 21) (lo28 jt ja [some (.int x),some (.obj r),v4,v5,v6,v7,some (.obj kc),v9,some (.obj ks),some (.obj lc),v12,v13,some (.obj lh),v15,some m.lrow,some (.obj σ.length),none,none,none,none,none,none,none,none,none,none]) (σ++jJ m (σ.length+1) sv::[.list []]) K X:=by
 refine sF rfl (Ev.run (aB rfl) ?_)
 refine pFo (f:=eN.row) (xs:=es) (fun a c mm σ'=>∃(ps:List PE) (v18 v19:Option V),mm=lo28 jt ja [some (.int x),some (.obj r),v4,v5,v6,v7,some (.obj kc),v9,some (.obj ks),some (.obj lc),v12,v13,some (.obj lh),v15,some m.lrow,some (.obj σ.length),v18,v19,none,none,none,none,none,none,none,none]∧ps.map Prod.snd=a∧σ <+:σ'∧σ'[σ.length]? =some (jJ m (σ.length+1) sv)∧σ'[σ.length+1]? =some (iH ps)∧dV σ' ps) ⟨[],none,none,rfl,rfl,aW _ _,bB,jF,fT⟩ (fun a c mm σ' hI=>?_) (fun mm σ' hI=>?_) fun a e c ea R hR mm σ' hI=>?_
 ·obtain ⟨_,_,_,_,_,p,_⟩:=hI
  exact bZ p hr
 ·refine hide fun Gx hGx=>?_
  obtain ⟨ps,v18,v19,rfl,ep,p,g1,g2,g3⟩:=hI
  refine hGx ?_
  exact h v18 v19 σ' p ⟨_,ps,sv,g1,g2,g3,ep.trans hm.symm,hsv.mono p⟩
 ·refine hide fun Gx hGx=>?_
  obtain ⟨ps,v18,v19,rfl,ep,p,g1,g2,g3⟩:=hI
  refine hGx ?_
  have he:=hE e (ea▸a8 _ (.head _))
  have lp:ps.length≤2:=by
   rw [←aK (f:=Prod.snd),ep]
   exact aA (ea▸(d8 a (e::c)).length_le) hes
  refine bd rfl ?_
  refine sA (eQ (aD (cQ (aB rfl) aH rfl) (aD (cQ (aB rfl) aH rfl) (aD (cQ (aB rfl) aH rfl) (aD (cQ (aB rfl) aH rfl) aG)))) ?_)
  refine j6 (e:=e) (nq ?_)
  have a2:(σ'++[e.o])[σ.length+1]? =some (iH ps):=cL g2
  have lt:=get_in g2
  have a1:=cT (b:=iH (ps++[(σ'.length,e)])) (cL (r:=[e.o]) g1) (Nat.succ_ne_self σ.length)
  have a3:dV ((σ'++[e.o]).set (σ.length+1) (iH (ps++[(σ'.length,e)]))) ps:=(g3.mono (aW _ _)).set a2
  have a4:=cT (b:=iH (ps++[(σ'.length,e)])) (aQ (l:=σ') (a:=e.o)) (cJ lt)
  have a5:=nU (b:=iH (ps++[(σ'.length,e)])) a2
  have p2:σ <+:(σ'++[e.o]).set (σ.length+1) (iH (ps++[(σ'.length,e)])):=o9 (p.trans (aW _ _)) (eJ _)
  have a6:∀q∈ps++[(σ'.length,e)],((σ'++[e.o]).set (σ.length+1) (iH (ps++[(σ'.length,e)])))[q.1]? =some q.2.o:=all_a a3 (d6 a4 fT)
  have hz:(ps.map obP).length < lim:=by rw [aK];exact aS lp (by decide)
  refine sE (e_app1 (a9 (aB rfl) (cL g1) rfl) a2 (aB rfl) hz (σ':=(σ'++[e.o]).set (σ.length+1) (iH (ps++[(σ'.length,e)]))) (by rw [iH,bI];rfl) ?_)
  generalize (σ'++[e.o]).set (σ.length+1) (iH (ps++[(σ'.length,e)]))=s3 at a1 a4 a5 a6 p2 ⊢
  clear a3
  have q9:x % 9 < 2 ^ 64:=aJ (mod_lt rfl) (by decide)
  refine sI (t_orc (t_noc (t_val rfl (cM (dW (Ev.run aH (dW (aP (aD (aB rfl) aG) ?_))))))))
  refine m7 he.ok a4 fun s4 p4=>?_
  refine dW (aP (aD (aB rfl) aG) ?_)
  refine gO he.ok fun s5 p5=>?_
  refine iB.run (aD (aB rfl) (aD (aB rfl) aG)) ?_
  refine (ent_wh he).run fun s6 p6=>?_
  have p36:=(p4.trans p5).trans p6
  refine p_tb (p_noT (p_orF (eP (aZ (aB rfl) (bZ p36 a4) rfl aG ?_))))
  refine c_Entry_size he.ok (bZ p36 a4) ?_
  refine fH (aP (aD (aB rfl) aG) ?_)
  refine m7 he.ok (bZ p36 a4) fun s7 p7=>?_
  refine p_len (eI.rF (c_neI (ne_f rfl)) (pI0 (sI (eP (cM (dW (Ev.run aH (dW (aP (aD (fJ (aD (cQ (aB rfl) aH rfl) (aD (cQ (aB rfl) aH rfl) (aD (b8 aH (b8 (b8 (aB rfl) aH (dU (by decide))) aH (b_mulN q9)) cE) (aD (cQ (aB rfl) aH rfl) aG)))) rfl) aG) ?_)))))))))
  have hk':eN.Ok ⟨e.t,e.i,1+x % 9*2,e.d⟩:=⟨he.ok.t,he.ok.i,aA (aT (bA 2 (b6 (mod_lt rfl))) 1) (LE rfl),he.ok.d⟩
  refine gO (e:=⟨e.t,e.i,1+x % 9*2,e.d⟩) hk' fun s8 p8=>?_
  refine iB.run aG ?_
  refine no_ent (hk'.dat he.b) (bad_ent hk' (odd_ne x)) _ _ _ _ fun s9 p9=>?_
  refine Ev.run eW (eI.rF fA (pI0 (s0 ?_)))
  have p39:=((p36.trans p7).trans p8).trans p9
  exact hR _ _ ⟨ps++[(σ'.length,e)],_,_,rfl,by rw [bI,ep];rfl,p2.trans p39,bZ p39 a1,bZ p39 a5,fun q hq=>bZ p39 (a6 q hq)⟩
end
end
section
theorem all_t {α:Type} {f:α→V} {n:Nat} (h:∀a,V.pure n (f a)=true):∀{l:List α},(l.map f).all (V.pure n)=true
 | []=>rfl
 | a::l=>by rw [kI,List.all_cons,h a,all_t h];rfl
theorem pure_map {α:Type} {f:α→V} {n:Nat} (h:∀a,V.pure n (f a)=true) (l:List α):V.pure (n+1) (.tup (l.map f))=true:=all_t h
theorem pure_int (n i:Nat):V.pure n (cU i)=true:=by cases n <;> rfl
theorem pure_cf (n:Nat) (c:Cf):V.pure (n+2) c.row=true:=by
 have p:=pure_map (pure_int n)
 show (V.pure (n+1) (.tup (c.v.map cU)) && (V.pure (n+1) (.tup (c.l.map cU)) && (V.pure (n+1) (.tup (c.o.map cU)) && (V.pure (n+1) (.tup (c.n.map cU)) && true))))=true
 rw [p,p,p,p];rfl
theorem pure_ent (n:Nat) (e:eN):V.pure (n+1) e.row=true:=by cases n <;> rfl
theorem pure_sn (n:Nat) (s:Sn):V.pure (n+3) s.row=true:=by
 show (true && (true && (V.pure (n+2) s.c.row && true)))=true
 rw [pure_cf];rfl
theorem pure_snr (n:Nat) (s:Option Sn):V.pure (n+3) (nQ s)=true:=by
 induction s with
 | none=>rfl
 | some s=>exact pure_sn n s
theorem pure_pair (n:Nat) (p:PN):V.pure (n+1) (jQ p)=true:=by cases n <;> rfl
theorem pure_ch (n:Nat) (c:Ch):V.pure (n+3) c.row=true:=by
 show (true && (V.pure (n+2) (.tup (c.cs.map jQ)) && (true && true)))=true
 rw [pure_map (pure_pair n)];rfl
theorem pure_lrow (m:Ms):V.pure 20 m.lrow=true:=by
 show (V.pure 19 (.tup (m.hd.map cU)) && (true && (V.pure 19 (.tup (m.es.map eN.row)) && (V.pure 19 (nQ m.sn) && (true && true)))))=true
 rw [pure_map (pure_int 18),pure_map (pure_ent 17),pure_snr];rfl
theorem pure_row (m:Ms):V.pure 20 m.row=true:=by
 show (true && (true && (true && (true && (true && (true && (V.pure 19 (.tup (m.es.map eN.row)) && (true && (V.pure 19 (nQ m.sn) && (true && (true && (true && true))))))))))))=true
 rw [pure_map (pure_ent 17),pure_snr];rfl
theorem lM.no {α:Type} {p:Except Ex α} {a:α} {P:Prop} (h:lM p) (e:p=.ok a):P:=h.elim fun x q=>eok (q.symm.trans e)
theorem res_all {α β:Type} {p:Except Ex α} {f:α→Except Ex β} {A:β→Prop} (h:All p fun a=>eU (f a) A (fun _=>True)):eU (bnd p f) A (fun _=>True):=by
 induction p with
 | ok a=>exact h a rfl
 | error x=>trivial
theorem Off.pre {enc data:List Nat} (o:Off enc data):∃y,data <+:enc++[y]:=by
 rcases o with ⟨n,_,rfl⟩ | ⟨y,_,rfl⟩
 ·exact ⟨0,(List.take_prefix n enc).trans (d8 _ _)⟩
 ·exact ⟨y,dM⟩
theorem pos_ne {l:List Nat} (h:l≠[]):0 < l.length:=kC.mpr h
theorem Cf.Ok.dat {c:Cf} (h:c.Ok):Dat c.enc:=⟨jK (c.length h) rfl,b256_conf (hZ c.a)⟩
theorem no_conf {data:List Nat} (D:Dat data) (h:lM (nZ data)):gR 3 data .none:=reads_conf D (fun _ e=>h.no e) (h.r fun _=>rfl)
theorem conf_wh {c:Cf} (h:c.Ok) (r:c.Ris):WhR 3 c.enc [.tup (c.v.map cU),.tup (c.l.map cU),.tup (c.o.map cU),.tup (c.n.map cU),.bool c.a]:=
 .of (whole_cf h r) h.dat rfl (pure_cf 18 c) (pos_ne (fB (fB (fB (fB (fB (gT _))))))) (mD (c.length h) rfl) (fun D e=>reads_conf D (fun c' e'=>by rw [e] at e';exact Except.ok.inj e'▸h) (.ok e rfl)) fun _ _ D b=>no_conf D b
theorem sn_pre {s:Sn} (h:s.Ok) (r:s.c.Ris) {w u:List Nat} (hw:w <+:s.enc++u):snGood w:=by
 rw [Sn.enc_r,aE,aE,aE] at hw
 exact res_all ((bR h.i).all hw fun w hw=>res_all ((bR h.t).all hw fun w hw=>res_all ((gA (s.c.length h.c) rfl).all hw fun w hw=>eU.ok (whole_cf h.c r).ok h.c)))
theorem snap_wh {s:Sn} (h:s.Dn):WhR 5 s.enc [.int s.i,.int s.t,s.c.row,.bytes s.d]:=
 .of (whole_snap h.ok h.ris) ⟨jK (s.length h.ok) rfl,b256_snap h.d.b⟩ rfl (pure_sn 17 s) (pos_ne (fB (fB (fB (gT _))))) (mD (s.length h.ok) rfl) (fun D e=>reads_snap D (sn_pre h.ok h.ris (d8 _ [])) (.ok e rfl)) fun _ o D b=>o.pre.elim fun _ p=>reads_snap D (sn_pre h.ok h.ris p) (b.r fun _=>rfl)
theorem Ch.Dn.ok {c:Ch} (h:c.Dn):c.Ok:=⟨aA (b6 h.tr) (LE rfl),aA h.len (LE rfl),fun p hp=>⟨three (h.le p hp).1,(h.le p hp).2⟩,aA h.z.l (LE rfl)⟩
theorem enc_ne (c:Ch):c.enc≠[]:=fB (fB (fB (gT c.tr)))
theorem Ch.Ok.dat {c:Ch} (h:c.Ok) (b:eE c.cx):Dat c.enc:=⟨jK (c.length h) rfl,b256_ch b⟩
theorem no_ch {data:List Nat} (D:Dat data) (hn:data≠[]) (h:lM (dCh1 data)):gR 4 data .none:=by
 rw [←dCh_ne hn] at h
 exact reads_ch D (h.r fun _=>trivial) (h.r fun _=>rfl)
theorem ch_nil:gR 4 [] (.tup [.int 0,.tup [],.bytes []]):=reads_ch ⟨LE rfl,fT⟩ (eU.ok (a:=⟨0,[],[]⟩) rfl (LE rfl)) (eU.ok (a:=⟨0,[],[]⟩) rfl rfl)
theorem ch_wh {c:Ch} (h:c.Dn):WhR 4 c.enc [.int c.tr,.tup (c.cs.map jQ),.bytes c.cx]:=by
 have D:=h.ok.dat h.z.b
 have z:=mD (c.length h.ok) rfl
 have W:=whole_ch (c:=c) (bE h.tr) (aA h.len (LE rfl)) h.le (aA h.z.l (LE rfl))
 have e:dCh c.enc=.ok c:=(dCh_ne (enc_ne c)).trans W.ok
 exact ⟨pure_ch 17 c,pos_ne (enc_ne c),z,reads_ch D (.ok e (aA h.len (LE rfl))) (.ok e rfl),fun data o q=>no_ch (o.dat D z) (q rfl) (W.off o),fun _=>⟨_,ch_nil⟩⟩
theorem Ms.Dn.snd {m:Ms} {x:Nat} {es:List eN} {s:Sn} (h:m.Dn x es s) (hs:s.Dn):∀s',m.sn=some s'→s'.Dn:=fun s' e=>snOf_some (h.sn.symm.trans e)▸hs
theorem Ms.Dn.fine {m:Ms} {x:Nat} {es:List eN} {s:Sn} (h:m.Dn x es s) (hs:s.Dn) (hE:∀e∈es,e.Dn) (hl:es.length≤2):m.Fine:=
 ⟨⟨h.hd,by rw [h.es];exact aA hl (LE rfl),fun e he=>(hE e (h.es▸he)).ok,fun s' e=>(h.snd hs s' e).ok,aA h.c.l (LE rfl)⟩,bE h.k,fun e he=>(hE e (h.es▸he)).k02,fun s' e=>(h.snd hs s' e).ris⟩
theorem encSn_len {sn:Option Sn} (h:∀s,sn=some s→s.Ok):(encSn sn).length≤20011:=by
 induction sn with
 | none=>exact LE rfl
 | some s=>exact bX (gB (s.length (h s rfl)) rfl)
theorem msg_len {hd:List Nat} {fl:Nat} {es:List eN} {sn:Option Sn} {cx:List Nat} (h1:hd.length≤10) (h2:∀x∈hd,x≤18446744073709551615) (h3:es.length≤10) (h4:∀e∈es,e.Ok) (h5:∀s,sn=some s→s.Ok) (h6:cx.length≤1000):(lQ hd fl es sn cx).length≤300000:=by
 unfold lQ
 rw [encT_eq]
 exact aA (bY (bY (bY (bY (bY (aA (catL_len fun x hx=>oP (h2 x hx)) (bA 10 h1)) (bD 1)) (oP (aA h3 (LE rfl)))) (aA (lenE_len h4) (bA 20010 h3))) (encSn_len h5)) (gB h6 rfl)) (LE rfl)
theorem Ms.Ok.len' {m:Ms} (h:m.Ok) {fl:Nat} {sn:Option Sn} {cx:List Nat} (h5:∀s,sn=some s→s.Ok) (h6:cx.length≤1000):(lQ m.hd fl m.es sn cx).length≤300000:=msg_len (LE rfl) h.hd h.len h.es h5 h6
theorem no_msg {data:List Nat} (D:Dat data) (k:hkMsg data) (h:lM (dMsg data)):gR 6 data .none:=reads_msg D k (h.r fun _=>rfl)
theorem Ms.Fine.wh {m:Ms} (F:m.Fine) (D:Dat m.enc):WhR 6 m.enc [.tup (m.hd.map cU),.bool m.rj,.tup (m.es.map eN.row),nQ m.sn,.bytes m.cx]:=by
 have em:m.enc=mZ m.hd (nW m.rj.toNat m.es (encSn m.sn++lenB m.cx)):=oX
 have k:∀{y w},w <+:m.enc++[y]→hkMsg w:=fun {y w} hw=>by
  rw [em,encM1_app,encM2_app,aE] at hw
  exact hk_msg F.toOk F.k02 (aA F.kind (LE rfl)) (tl_sn F.sn F.ris) hw
 exact .of (whole_msg F) D rfl (pure_lrow m) (by rw [em];exact pos_ne (fB (gT m.k))) (mD (F.toOk.len' F.sn F.cx) rfl) (fun D e=>reads_msg D (k (y:=0) (d8 _ _)) (.ok e ⟨aA F.len (LE rfl),rfl⟩)) fun _ o D b=>o.pre.elim fun _ p=>no_msg D (k p) b
end
section
section
variable {d:Nat} {σ:aN} {K:Fl→Lo→aN→Prop} {X:Ex→Lo→aN→Prop} {jt ja:Nat}
theorem Cf.Ok.ids {c:Cf} (h:c.Ok):∀ids∈[c.v,c.l,c.o,c.n],ids.length≤8∧∀x∈ids,x≤18446744073709551615:=
 d6 (P:=fun ids:List Nat=>ids.length≤8∧∀x∈ids,x≤18446744073709551615) h.v.w (d6 h.l.w (d6 h.o.w (d6 h.n.w fT)))
theorem raft_e {L:Lo} {x kc ks lc km:Nat} {es:List eN} {s:Sn} {g:Ch} {m:Ms} (g2:cD L 2=some (.int x)) (g7:cD L 7=some s.c.row) (g8:cD L 8=some (.obj kc)) (g9:cD L 9=some s.row) (oP:cD L 10=some (.obj ks)) (g11:cD L 11=some (.obj lc)) (g13:cD L 13=some (.tup [.int g.tr,.tup (g.cs.map jQ),.bytes g.cx])) (g16:cD L 16=some m.lrow) (g17:cD L 17=some (.obj km)) (hE:∀e∈es,e.Dn) (hes:es.length≤2) (hs:s.Dn) (hg:g.Dn) (hm:m.Dn x es s) (CA:kD σ kc s.c) (SA:jM σ ks s) (LC:σ[lc]? =some (prsO g.cs)) (MA:nE σ km m)
  (h:∀σ',σ <+:σ'→wpSs (wpCall (d+12)) (bW.tl 27) L σ' K X):wpSs (wpCall (d+12)) (bW.tl 22) L σ K X:=by
 have hok:=hs.ok
 have F:=hm.fine hs hE hes
 refine sI (t_noc (t_val rfl (cM (dW (Ev.run aH (dW (aP (aD (aB g8) aG) ?_)))))))
 refine c_encode_conf hok.c CA fun s1 p1=>?_
 refine dW (aP (aD (aB g7) aG) ?_)
 refine iA (v:=s.c.v) (l:=s.c.l) (o:=s.c.o) (n:=s.c.n) (fv:=.bool s.c.a) b_addb (hZ _) hok.c.ids fun s2 p2=>?_
 refine iB.run (aD (aB g7) (aD (aB g2) aG)) ?_
 refine (conf_wh hok.c hs.ris).run fun s3 p3=>?_
 have q3:=(p1.trans p2).trans p3
 refine p_tb (p_noT (pI0 (sI (t_noc (t_val rfl (cM (dW (Ev.run aH (dW (cM (dW (eQ (aD (cQ (aB g13) aH rfl) (aD (aB g11) (aD (cQ (aB g13) aH rfl) aG))) ?_))))))))))))
 refine j8 (c:=g) (bZ q3 LC) (aA hg.len (LE rfl)) fun s4 p4 ca=>nq ?_
 refine iB.run aG ?_
 refine c_encode_change hg.ok ca fun s5 p5=>?_
 refine dW (aP (aD (aB g13) aG) ?_)
 refine iZ (c:=g) hg.ok fun s6 p6=>?_
 refine iB.run (aD (aB g13) (aD (aB g2) aG)) ?_
 refine (ch_wh hg).run fun s7 p7=>?_
 have q7:=q3.trans (((p4.trans p5).trans p6).trans p7)
 refine p_tb (p_noT (pI0 (sI (t_noc (t_val rfl (cM (dW (Ev.run aH (dW (aP (aD (aB oP) aG) ?_))))))))))
 refine oA hok (SA.mono q7) fun s8 p8=>?_
 refine dW (aP (aD (aB g9) aG) ?_)
 refine n8 hok fun s9 p9=>?_
 refine iB.run (aD (aB g9) (aD (aB g2) aG)) ?_
 refine (snap_wh hs).run fun s10 p10=>?_
 have q10:=q7.trans ((p8.trans p9).trans p10)
 refine p_tb (p_noT (pI0 (sI (t_noc (t_val rfl (cM (dW (Ev.run aH (dW (aP (aD (aB g17) aG) ?_))))))))))
 refine oZ F.toOk (MA.mono q10) fun s11 p11=>?_
 refine dW (aP (aD (aB g16) aG) ?_)
 refine fR (hd:=m.hd) (fv:=.bool m.rj) (es:=m.es) (sn:=m.sn) (cx:=m.cx) (LE rfl) F.hd b_addb (hZ _) F.len F.es F.sn F.cx fun s12 p12=>?_
 refine iB.run (aD (aB g16) (aD (aB g2) aG)) ?_
 refine (F.wh ⟨jK (F.toOk.len' F.sn F.cx) rfl,b256_msg (hZ m.rj) (fun e he=>(hE e (hm.es▸he)).b) (fun s' e=>(hm.snd hs s' e).d.b) hm.c.b⟩).run fun s13 p13=>?_
 have q13:=q10.trans ((p11.trans p12).trans p13)
 refine p_tb (p_noT (pI0 (sI (eP (mC (aP (aD ev_y aG) ?_))))))
 refine c_decode_change (data:=[]) (LE rfl) fT (eU.ok (a:=⟨0,[],[]⟩) rfl (LE rfl)) (eU.ok (a:=⟨0,[],[]⟩) rfl fun s14 k p14 ca=>?_)
 obtain ⟨l0,h0,h1⟩:=ca
 refine p_meth h0 rfl aG (c_ConfChange_row (c:=⟨0,[],[]⟩) ⟨l0,h0,h1⟩ ?_)
 refine Ev.run (v:=.tup [.int 0,.tup [],.bytes []]) (fJ (aD aH (aD (fJ aG rfl) (aD ev_y aG))) rfl) ((c_neT rfl).run (pI0 ?_))
 exact h _ (q13.trans p14)
end
end
section
theorem gv_eq {v:V}:∀{m:Lo} {i:Nat},i < m.length→cD (jY m i v) i=some v
 | [],_,h=>absurd h (Nat.not_lt_zero _)
 | _::_,0,_=>rfl
 | _::r,i+1,h=>gv_eq (m:=r) (Nat.lt_of_succ_lt_succ h)
theorem gv_ne {v w:V}:∀{m:Lo} {i j:Nat},cD m j=some w→Nat.beq i j=false→cD (jY m i v) j=some w
 | [],_,_,h,_=>h
 | _::_,0,0,_,q=>nomatch q
 | _::_,0,_+1,h,_=>h
 | _::_,_+1,0,h,_=>h
 | _::r,i+1,j+1,h,q=>gv_ne (m:=r) (i:=i) (j:=j) h q
noncomputable def codeO:AO→Nat
 | .list _=>0
 | .barr _=>1
 | .inst .Entry _=>2
 | .inst .Message _=>3
 | .inst .Snapshot _=>4
 | .inst _ _=>5
theorem ne_of {σ:aN} {i j:Nat} {a b:AO} (h1:σ[i]? =some a) (h2:σ[j]? =some b) (h:Nat.beq (codeO a) (codeO b)=false):i≠j:=fun e=>by
 subst e
 rw [Option.some.inj (h1.symm.trans h2),Nat.beq_refl] at h
 exact nomatch h
inductive TwS (lo:Nat) (σ:aN) (k:Nat):Prop
 | mk (s:Sn) (kc i1 i2 i3 i4:Nat) (xs:List V) (h0:σ[k]? =some (snapO s kc)) (l0:lo≤k) (h1:σ[kc]? =some (confO i1 i2 i3 i4 s.c.a)) (h2:σ[i1]? =some (.list xs)) (lx:xs.length≤50) (l1:lo≤i1)
theorem TwS.pre {lo:Nat} {σ σ':aN} {k:Nat} (h:TwS lo σ k) (p:σ <+:σ'):TwS lo σ' k:=by
 obtain ⟨s,kc,i1,i2,i3,i4,xs,h0,l0,h1,h2,lx,l1⟩:=h
 exact ⟨s,kc,i1,i2,i3,i4,xs,bZ p h0,l0,bZ p h1,bZ p h2,lx,l1⟩
theorem TwS.ent {lo:Nat} {σ:aN} {k i:Nat} {a o:AO} (h:TwS lo σ k) (e:σ[i]? =some a) (c:codeO a=2):TwS lo (σ.set i o) k:=by
 obtain ⟨s,kc,i1,i2,i3,i4,xs,h0,l0,h1,h2,lx,l1⟩:=h
 exact ⟨s,kc,i1,i2,i3,i4,xs,cT h0 (ne_of e h0 (by rw [c];rfl)),l0,cT h1 (ne_of e h1 (by rw [c];rfl)),cT h2 (ne_of e h2 (by rw [c];rfl)),lx,l1⟩
theorem TwS.lst {lo:Nat} {σ:aN} {k i:Nat} {ys zs:List V} (h:TwS lo σ k) (e:σ[i]? =some (.list ys)) (lz:zs.length≤50):TwS lo (σ.set i (.list zs)) k:=by
 obtain ⟨s,kc,i1,i2,i3,i4,xs,h0,l0,h1,h2,lx,l1⟩:=h
 have a:=cT (b:=AO.list zs) h0 (ne_of e h0 rfl)
 have b:=cT (b:=AO.list zs) h1 (ne_of e h1 rfl)
 by_cases q:i=i1
 ·subst q;exact ⟨s,kc,i,i2,i3,i4,zs,a,l0,b,nU e,lz,l1⟩
 ·exact ⟨s,kc,i1,i2,i3,i4,xs,a,l0,b,cT h2 q,lx,l1⟩
theorem lZ.tw {lo:Nat} {σ:aN} {k:Nat} {s:Sn} (h:lZ lo σ k s) (hv:s.c.v.length≤50):TwS lo σ k:=by
 obtain ⟨kc,h0,⟨i1,i2,i3,i4,c0,c1,_,_,_,_,l1,_⟩,l⟩:=h
 exact ⟨s,kc,i1,i2,i3,i4,_,h0,l,c0,c1,by rw [aK];exact hv,l1⟩
inductive TwV (lo:Nat) (σ:aN):V→Prop
 | no:TwV lo σ .none
 | so {k:Nat} (h:TwS lo σ k):TwV lo σ (.obj k)
theorem TwV.imp {lo:Nat} {σ σ':aN} {v:V} (h:TwV lo σ v) (f:∀k,TwS lo σ k→TwS lo σ' k):TwV lo σ' v:=by
 induction h with
 | no=>exact .no
 | so a=>exact .so (f _ a)
theorem first_of {lo n:Nat} {ps:List PE} {σ:aN} (h:∀p∈ps,lo≤p.1) (hn:lo≤n) (e:dV σ ps) {e0:eN} (g:σ[n]? =some e0.o):∃k0 e0 L,ps.map obP++[.obj n]=.obj k0::L∧lo≤k0∧σ[k0]? =some (eN.o e0):=by
 induction ps with
 | nil=>exact ⟨n,e0,[],rfl,hn,g⟩
 | cons p r=>exact ⟨p.1,p.2,_,rfl,h p (.head _),e p (.head _)⟩
section
variable {d:Nat} {σ:aN} {K:Fl→Lo→aN→Prop} {X:Ex→Lo→aN→Prop} {L:Lo} {m:Ms} {km kt x le lo:Nat}
theorem raft_f3 {lh:Nat} (g14:cD L 14=some (.obj lh)) (g16:cD L 16=some m.lrow) (g17:cD L 17=some (.obj km)) (F:m.Fine) (hl:σ[lh]? =some (natsO m.hd)) (MA:nE σ km m) (h:∀σ',σ <+:σ'→wpSs (wpCall (d+12)) (bW.tl 34) L σ' K X):wpSs (wpCall (d+12)) (bW.tl 33) L σ K X:=by
 refine sI (t_orc (eP (aP (aD (aB g17) aG) ?_)))
 refine j4 (aA F.len (LE rfl)) MA fun s1 p1=>?_
 refine (aB g16).run ((c_neT (pure_lrow m)).run (p_orF ?_))
 refine eP (cM (dW (aP (aD (aB g17) aG) ?_)))
 refine oZ F.toOk (MA.mono p1) fun s2 p2=>?_
 refine iB.run aG ?_
 have em:m.enc=mZ m.hd (nW m.rj.toNat m.es (encSn m.sn++lenB m.cx)):=oX
 refine c_kind_of_message (eU.ok (a:=(m.k,_)) (by rw [em];exact (bR (aA F.kind (LE rfl))).ok _) ?_)
 have p:=p1.trans p2
 refine (iL (aB g14) (bZ p hl) aH rfl).run ((c_neI (ne_f rfl)).run (pI0 ?_))
 exact h _ p
theorem raft_f2 {ps:List PE} {sv:V} (g2:cD L 2=some (.int x)) (g20:cD L 20=some (.obj kt)) (hn:ps.length≤10) (p0:lo≤σ.length) (T0:σ[kt]? =some (jJ m le sv)) (l2:lo≤le) (T1:σ[le]? =some (iH ps)) (T2:dV σ ps) (l3:∀p∈ps,lo≤p.1) (T3:TwV lo σ sv)
  (h:∀σ',(∀s:aN,s.length=lo→s <+:σ→s <+:σ')→wpSs (wpCall (d+12)) (bW.tl 33) L σ' K X):wpSs (wpCall (d+12)) (bW.tl 29) L σ K X:=by
 refine sE (e_appc (a9 (aB g20) T0 rfl) T1 ?_)
 refine eQ (aD aH (aD aH (aD aH (aD ev_y aG)))) ?_
 refine j6 (e:=⟨1,1,0,[]⟩) (nq ?_)
 have lz:(ps.map obP++[V.obj σ.length]).length≤11:=by rw [aF,aK];exact bX hn
 have n1:=cL (r:=[eN.o ⟨1,1,0,[]⟩]) T1
 refine p_app n1 (by rw [aK];exact aS hn (by decide)) rfl ?_
 have u0:=cT (b:=AO.list (ps.map obP++[.obj σ.length])) (cL (r:=[eN.o ⟨1,1,0,[]⟩]) T0) (ne_of n1 (cL T0) rfl)
 have u1:=nU (b:=AO.list (ps.map obP++[.obj σ.length])) n1
 have u3:=T3.imp fun k w=>(w.pre (aW σ [eN.o ⟨1,1,0,[]⟩])).lst n1 (aA lz (LE rfl))
 obtain ⟨k0,e0,L0,eL,lk,u2⟩:=first_of l3 p0 (dV.set n1 (T2.mono (aW σ [eN.o ⟨1,1,0,[]⟩]))) (cT (b:=AO.list (ps.map obP++[.obj σ.length])) aQ (cJ (get_in T1)))
 have pp:∀s:aN,s.length=lo→s <+:σ→s <+:(σ++[eN.o ⟨1,1,0,[]⟩]).set le (.list (ps.map obP++[.obj σ.length])):=fun s e p=>o9 (p.trans (aW _ _)) (e▸l2)
 replace u1:=u1.trans (congrArg (fun l=>some (AO.list l)) eL)
 generalize (σ++[eN.o ⟨1,1,0,[]⟩]).set le (.list (ps.map obP++[.obj σ.length]))=s5 at u0 u1 u2 u3 pp ⊢
 refine sAt (Ev.run (b8 (aB g2) aH cE) (jR (iL (a9 (aB g20) u0 rfl) u1 aH rfl) u2 rfl rfl ?_))
 have x0:=cT (b:=nK .term (.int ((x+7:Nat):Int)) e0.o) u0 (ne_of u2 u0 rfl)
 have x1:=cT (b:=nK .term (.int ((x+7:Nat):Int)) e0.o) u1 (ne_of u2 u1 rfl)
 have x2:=nU (b:=nK .term (.int ((x+7:Nat):Int)) e0.o) u2
 have x3:=u3.imp fun k w=>w.ent (o:=nK .term (.int ((x+7:Nat):Int)) e0.o) u2 rfl
 have pp2:∀s:aN,s.length=lo→s <+:σ→s <+:s5.set k0 (nK .term (.int ((x+7:Nat):Int)) e0.o):=fun s e p=>o9 (pp s e p) (e▸lk)
 generalize s5.set k0 (nK .term (.int ((x+7:Nat):Int)) e0.o)=s6 at x0 x1 x2 x3 pp2 ⊢
 refine sAt (Ev.run ev_y (jR (iL (a9 (aB g20) x0 rfl) x1 aH rfl) x2 rfl rfl ?_))
 have y0:=cT (b:=nK .data (.bytes [111,116,104,101,114]) (nK .term (.int ((x+7:Nat):Int)) e0.o)) x0 (ne_of x2 x0 rfl)
 have y3:=x3.imp fun k w=>w.ent (o:=nK .data (.bytes [111,116,104,101,114]) (nK .term (.int ((x+7:Nat):Int)) e0.o)) x2 rfl
 have pp3:∀s:aN,s.length=lo→s <+:σ→s <+:s6.set k0 (nK .data (.bytes [111,116,104,101,114]) (nK .term (.int ((x+7:Nat):Int)) e0.o)):=fun s e p=>o9 (pp2 s e p) (e▸lk)
 generalize s6.set k0 (nK .data (.bytes [111,116,104,101,114]) (nK .term (.int ((x+7:Nat):Int)) e0.o))=s7 at y0 y3 pp3 ⊢
 induction y3 with
 | no=>exact iV (dH (a9 (aB g20) y0 rfl) eW fA) (h _ pp3)
 | @so k w=>
  obtain ⟨s,kc,i1,i2,i3,i4,xs,h0,l0,h1,h2',lx,l1⟩:=w
  refine mU (dH (a9 (aB g20) y0 rfl) eW c_isnO) ?_
  refine sAt (Ev.run (b8 (aB g2) aH cE) (jR (a9 (aB g20) y0 rfl) h0 rfl rfl ?_))
  have z0:=cT (b:=nK .index (.int ((x+7:Nat):Int)) (snapO s kc)) y0 (ne_of h0 y0 rfl)
  have z1:=nU (b:=nK .index (.int ((x+7:Nat):Int)) (snapO s kc)) h0
  have z2:=cT (b:=nK .index (.int ((x+7:Nat):Int)) (snapO s kc)) h1 (ne_of h0 h1 rfl)
  have z3:=cT (b:=nK .index (.int ((x+7:Nat):Int)) (snapO s kc)) h2' (ne_of h0 h2' rfl)
  have hz:xs.length < lim:=aS lx (by decide)
  refine sE (e_app1 (a9 (a9 (a9 (aB g20) z0 rfl) z1 rfl) z2 rfl) z3 (b8 (aB g2) aH cE) hz rfl (s0q (sI (t_orc (eP (cM (dW ?_)))))))
  exact h _ fun s e p=>o9 (o9 (pp3 s e p) (e▸l0)) (e▸l1)
theorem raft_f {lh:Nat} {s:Sn} {es:List eN} (hL:20 < L.length) (g2:cD L 2=some (.int x)) (g14:cD L 14=some (.obj lh)) (g16:cD L 16=some m.lrow) (g17:cD L 17=some (.obj km)) (hE:∀e∈es,e.Dn) (hes:es.length≤2) (hs:s.Dn) (hm:m.Dn x es s) (hl:σ[lh]? =some (natsO m.hd)) (MA:nE σ km m)
  (h:∀v σ',σ <+:σ'→wpSs (wpCall (d+12)) (bW.tl 34) (jY L 20 v) σ' K X):wpSs (wpCall (d+12)) (bW.tl 27) L σ K X:=by
 have F:=hm.fine hs hE hes
 have n10:m.es.length≤100:=aA F.len (LE rfl)
 obtain ⟨le0,ps0,sv0,MA0,_⟩:=id MA
 refine sA (aZ (aB g17) MA0 rfl aG ?_)
 refine c_Message_copy F.sn n10 MA fun s1 kt p1 mf=>?_
 have g20:cD (jY L 20 (.obj kt)) 20=some (.obj kt):=gv_eq hL
 have g16':cD (jY L 20 (.obj kt)) 16=some m.lrow:=gv_ne g16 rfl
 have g17':cD (jY L 20 (.obj kt)) 17=some (.obj km):=gv_ne g17 rfl
 refine sI (t_orc (eP (aP (aD (aB g20) aG) ?_)))
 refine j4 n10 mf.at fun s2 p2=>?_
 refine (aB g16').run ((c_neT (pure_lrow m)).run (p_orF ?_))
 obtain ⟨le,ps,sv,h0,l1,l2,h1,h2,he,l3,h3⟩:=mf
 have a0:=bZ p2 h0
 refine eP (aZ (aB g20) a0 rfl aG ?_)
 refine c_Message_row n10 ⟨le,ps,sv,a0,bZ p2 h1,h2.mono p2,he,h3.at.mono p2⟩ fun s3 p3=>?_
 have b0:=bZ ((p1.trans p2).trans p3) MA0
 refine aZ (aB g17') b0 rfl aG ?_
 refine c_Message_row n10 (MA.mono ((p1.trans p2).trans p3)) fun s4 p4=>?_
 refine (c_neT (pure_row m)).run (pI0 ?_)
 have p14:=(p2.trans p3).trans p4
 have p:=p1.trans p14
 refine raft_f2 (gv_ne g2 rfl) g20 (by rw [←aK (f:=Prod.snd),he];exact F.len) p.length_le (bZ p14 h0) l2 (bZ p14 h1) (h2.mono p14) l3 ?_ fun s5 p5=>raft_f3 (gv_ne g14 rfl) g16' g17' F (bZ (p5 σ rfl p) hl) (MA.mono (p5 σ rfl p)) fun s6 p6=>h _ _ ((p5 σ rfl p).trans p6)
 have hv:=hm.snd hs
 generalize m.sn=sn0 at h3 hv
 induction h3 with
 | no=>exact .no
 | so a=>exact .so ((a.tw (aA (hv _ rfl).v.len (LE rfl))).pre p14)
end
end
section
theorem len_set {v:V}:∀{m:Lo} {i:Nat},(jY m i v).length=m.length
 | [],_=>rfl
 | _::_,0=>rfl
 | _::r,_+1=>congrArg Nat.succ (len_set (m:=r))
theorem lH {m:Lo} {i n:Nat} {v:V} (h:m.length=n):(jY m i v).length=n:=len_set.trans h
theorem eO {m:Lo} {i j:Nat} {v w:V} (q:Nat.beq i j=false) (h:cD m j=some w):cD (jY m i v) j=some w:=gv_ne h q
theorem g_eq {m:Lo} {i:Nat} {v:V} (hl:m.length=28) (h:Nat.blt i 28=true):cD (jY m i v) i=some v:=gv_eq (hl▸LE h)
theorem beq_ne {i j:Nat} (h:i≠j):Nat.beq i j=false:=by
 cases e:Nat.beq i j with
 | false=>rfl
 | true=>exact absurd (i0 e) h
structure Ag (L M:Lo):Prop where
 l:M.length=L.length
 g:∀{j w},cD L j=some w→Nat.blt j 18=true→cD M j=some w
theorem Ag.set {L M:Lo} {i:Nat} {v:V} (h:Ag L M) (hi:Nat.ble 18 i=true):Ag L (jY M i v):=⟨len_set.trans h.l,fun e q=>gv_ne (h.g e q) (beq_ne (lU (aJ (LE q) (LE hi))))⟩
theorem take_preV {l:List V} {n:Nat}:slice l 0 (lS l.length (n:Int))=l.take n:=take_pre
theorem limF_c {most:Int} {t T:Int} {b:Bool} {e:eN} {r:List eN}:limF most t b (e::r)=if b=true∧most < t+(e.enc.length:Nat) then 0 else 1+limF most (t+(e.enc.length:Nat)) true r:=rfl
section
variable {d:Nat} {σ:aN} {K:Fl→Lo→aN→Prop} {X:Ex→Lo→aN→Prop} {L:Lo} {m:Ms} {km r x:Nat} {es:List eN}
theorem e_sl {W:Wp} {m:Lo} {i j p n:Nat} {vs:List V} {Q:V→aN→Prop} {X:Ex→aN→Prop} (hi:cD m i=some (.obj p)) (h:σ[p]? =some (.list vs)) (hj:cD m j=some (.int n)) (q:Q (.obj σ.length) (σ++[.list (vs.take n)])):wpE W (.slc (.loc i) .nil (.loc j)) m σ Q X:=
 e_slc ((aB hi).run (jB hj (.obj (l:=0) h rfl rfl (by rw [take_preV];exact q))))
noncomputable def Fit (x:Nat) (es c:List eN) (T F:Nat) (R:Int):Prop:=(R=(x % 40:Nat)∧limF (x % 40:Nat) 0 false es=F+limF (x % 40:Nat) T (decide (F≠0)) c)∨(R= -1∧F≠0∧limF (x % 40:Nat) 0 false es=F)
theorem Fit.end {F T:Nat} {R:Int} (h:Fit x es [] T F R):limF (x % 40:Nat) 0 false es=F:=by
 rcases h with ⟨_,q⟩ | ⟨_,_,q⟩
 ·exact q
 ·exact q
theorem Fit.fit {F T:Nat} {R:Int} {e:eN} {c:List eN} (h:Fit x es (e::c) T F R) (q:F=0∨((T+e.enc.length:Nat):Int)≤R):Fit x es c (T+e.enc.length) (F+1) R:=by
 rcases h with ⟨hr,hF⟩ | ⟨hr,hz,_⟩
 ·refine .inl ⟨hr,?_⟩
  exact hF.trans ((congrArg (F+·) (if_neg fun z:decide (F≠0)=true∧((x % 40:Nat):Int) < (T:Int)+(e.enc.length:Nat)=>q.elim (fun w=>of_decide_eq_true z.1 w) fun w=>gP.mpr (hr▸w) z.2)).trans (c4 F 1 _).symm)
 ·subst hr
  exact q.elim (fun w=>absurd w hz) fun w=>absurd (cW (aV _) w) (by decide)
theorem Fit.out {F T:Nat} {R:Int} {e:eN} {c:List eN} (h:Fit x es (e::c) T F R) (q:F≠0) (w:¬((T+e.enc.length:Nat):Int)≤R):Fit x es c (T+e.enc.length) F (-1):=by
 rcases h with ⟨hr,hF⟩ | ⟨_,_,hF⟩
 ·exact .inr ⟨rfl,q,hF.trans (congrArg (F+·) (if_pos ⟨decide_eq_true q,pK.mp (hr▸w)⟩))⟩
 ·exact .inr ⟨rfl,q,hF⟩
theorem raft_g1 (hL:L.length=28) (g2:cD L 2=some (.int x)) (g3:cD L 3=some (.obj r)) (hE:∀e∈es,e.Dn) (hr:σ[r]? =some (rowsO es))
  (h:∀M σ' (F:Nat),Ag L M→σ <+:σ'→cD M 22=some (.int F)→limF (x % 40:Nat) 0 false es=F→wpSs (wpCall (d+12)) (bW.tl 38) M σ' K X):wpSs (wpCall (d+12)) (bW.tl 34) L σ K X:=by
 refine sA (Ev.run (b8 (aB g2) aH (dU (by decide))) (sA (Ev.run aH (sA (Ev.run aH (sF rfl (Ev.run (aB (eO rfl (eO rfl (eO rfl g3)))) ?_)))))))
 refine pFo (f:=eN.row) (xs:=es) (fun a c M σ'=>∃(T F:Nat) (R:Int),Ag L M∧cD M 21=some (.int R)∧cD M 22=some (.int F)∧cD M 23=some (.int T)∧σ <+:σ'∧Fit x es c T F R) ⟨0,0,(x % 40:Nat),((Ag.set ⟨rfl,fun e _=>e⟩ rfl).set rfl).set rfl,by exact (eO rfl (eO rfl (g_eq hL rfl))),(by show _=some (V.int 0);exact (eO rfl (g_eq (lH hL) rfl))),(by show _=some (V.int 0);exact (g_eq (lH (lH hL)) rfl)),dM,.inl ⟨rfl,by rw [fL];rfl⟩⟩ (fun a c M σ' hI=>?_) (fun M σ' hI=>?_) fun a e c ea R hR M σ' hI=>?_
 ·obtain ⟨_,_,_,_,_,_,_,p,_⟩:=hI
  exact bZ p hr
 ·obtain ⟨T,F,R,A,_,r2,_,p,hF⟩:=hI
  exact h M σ' F A p r2 hF.end
 ·obtain ⟨T,F,RR,A,r1,r2,r3,p,hF⟩:=hI
  have he:=hE e (ea▸a8 _ (.head _))
  have hM:=A.l.trans hL
  refine bd rfl ?_
  refine sA (cR (Ev.run (aB (eO rfl r3)) (fH (aP (aD (aB (g_eq hM rfl)) aG) ?_))))
  refine gO he.ok fun s2 p2=>?_
  by_cases q:F=0
  ·have q':((F:Nat):Int)=0:=congrArg Int.ofNat q
   refine p_len (gF.run cE (mU (t_ort (dH (aB (eO rfl (eO rfl r2))) aH (dR (decide_eq_true q')))) (sA (Ev.run (b8 (aB (eO rfl (eO rfl r2))) aH cE) (s0q (s0 ?_))))))
   exact hR _ _ ⟨T+e.enc.length,F+1,RR,((A.set rfl).set rfl).set rfl,by exact (eO rfl (eO rfl (eO rfl r1))),by exact (g_eq (lH (lH hM)) rfl),by exact (eO rfl (g_eq (lH hM) rfl)),p.trans p2,hF.fit (.inl q)⟩
  ·have q':¬((F:Nat):Int)=0:=fun z=>q (Int.ofNat.inj z)
   by_cases w:((T+e.enc.length:Nat):Int)≤RR
   ·refine p_len (gF.run cE (mU (t_or (dH (aB (eO rfl (eO rfl r2))) aH (dR (decide_eq_false q'))) (dH (aB (g_eq (lH hM) rfl)) (aB (eO rfl (eO rfl r1))) (c_leI (decide_eq_true w)))) (sA (Ev.run (b8 (aB (eO rfl (eO rfl r2))) aH cE) (s0q (s0 ?_))))))
    exact hR _ _ ⟨T+e.enc.length,F+1,RR,((A.set rfl).set rfl).set rfl,by exact (eO rfl (eO rfl (eO rfl r1))),by exact (g_eq (lH (lH hM)) rfl),by exact (eO rfl (g_eq (lH hM) rfl)),p.trans p2,hF.fit (.inr w)⟩
   ·refine p_len (gF.run cE (sIf (t_or (dH (aB (eO rfl (eO rfl r2))) aH (dR (decide_eq_false q'))) (dH (aB (g_eq (lH hM) rfl)) (aB (eO rfl (eO rfl r1))) (c_leI (decide_eq_false w)))) (sA (Ev.run (ev_ng aH) (s0q (s0 ?_))))))
    exact hR _ _ ⟨T+e.enc.length,F,-1,((A.set rfl).set rfl).set rfl,by exact (g_eq (lH (lH hM)) rfl),by exact (eO rfl (eO rfl (eO rfl r2))),by exact (eO rfl (g_eq (lH hM) rfl)),p.trans p2,hF.out q w⟩
theorem big_bad (x:Nat) (hx:x < 4096):((18446744073709551616+x:Nat):Int).natAbs < 2 ^ 128∧(18446744073709551615:Int) < ((18446744073709551616+x:Nat):Int):=⟨dD (gV hx _) (by decide),bH.mpr (yle rfl)⟩
theorem raft_g2 {F:Nat} (hL:L.length=28) (g2:cD L 2=some (.int x)) (g3:cD L 3=some (.obj r)) (g17:cD L 17=some (.obj km)) (g22:cD L 22=some (.int F)) (hx:x < 4096) (hF:limF (x % 40:Nat) 0 false m.es=F) (hE:∀e∈m.es,e.Ok) (hes:m.es.length≤10) (hr:σ[r]? =some (rowsO m.es)) (MA:nE σ km m)
  (h:∀σ',σ <+:σ'→wpSs (wpCall (d+12)) (bW.tl 42) (jY (jY L 24 (.bool false)) 24 (.bool true)) σ' K X):wpSs (wpCall (d+12)) (bW.tl 38) L σ K X:=by
 obtain ⟨le,ps,sv,m0,m1,m2,he,_⟩:=MA
 have hps:ps.length=m.es.length:=by rw [←he,aK]
 refine sI (eP (eC rfl (aP (aD (a9 (aB g17) m0 rfl) (aD (b8 (aB g2) aH (dU (by decide))) aG)) ?_)))
 refine c_limit_size (ps:=ps) (most:=(x % 40:Nat)) (fun p hp=>hE p.2 (he▸List.mem_map_of_mem hp)) (hps▸aA hes (LE rfl)) m1 m2 fun s2 k2 p2 g=>?_
 rw [he,hF] at g
 have eT:(ps.take F).map (fun p=>p.2.row)=(m.es.map eN.row).take F:=by rw [←he,fN,List.map_take];rfl
 have m2':=m2.mono p2
 refine pCo (f:=obP) (xs:=ps.take F) (fun p=>p.2.row) (fun _ s=>s=s2) rfl (fun _ s e=>e▸g) (aA (List.length_take_le' F ps) (hps▸aA hes (LE rfl))) (fun s e=>?_) fun a p c ea R hR s e=>⟨_,rfl,?_⟩
 ·subst e
  rw [eT]
  have q:=p2.trans (aW s [.list ((m.es.map eN.row).take F)])
  refine e_sl g3 (bZ q hr) g22 ?_
  refine (c_neL (cL aQ) aQ ?_).run (pI0 ?_)
  ·rw [←List.map_take];exact all_t (pure_ent 19)
  ·have q2:=q.trans (aW _ [.list ((m.es.map eN.row).take F)])
   refine sA (Ev.run ev_b (sTr (sE (cM (dW (eQ (aD (b8 aH (aB (eO rfl g2)) cE) (aD aH (aD aH (aD ev_y aG)))) ?_))))))
   refine j6 (e:=⟨18446744073709551616+x,1,0,[]⟩) (nq ?_)
   refine iB.run aG ?_
   have z:=big_bad x hx
   refine c_encode_entry_bad (t:=((18446744073709551616+x:Nat):Int)) (ix:=1) (k:=0) (dd:=[]) (.inr z.2) z.1 aQ fun s3 p3=>pTr rfl ?_
   refine sA (Ev.run ev_b (s0q (iV (t_nf (t_lb (g_eq (lH hL) rfl))) ?_)))
   exact h _ ((q2.trans (aW _ _)).trans p3)
 ·subst e
  refine aP (aD (aB rfl) aG) ?_
  exact lT (m2' p (List.take_subset F ps (ea▸a8 _ (.head _)))) (hR _ rfl)
theorem raft_g (hL:L.length=28) (g2:cD L 2=some (.int x)) (g3:cD L 3=some (.obj r)) (g17:cD L 17=some (.obj km)) (hx:x < 4096) (F:m.Fine) (hE:∀e∈m.es,e.Dn) (hr:σ[r]? =some (rowsO m.es)) (MA:nE σ km m)
  (h:∀M σ',Ag L M→σ <+:σ'→wpSs (wpCall (d+12)) (bW.tl 42) M σ' K X):wpSs (wpCall (d+12)) (bW.tl 34) L σ K X:=
 raft_g1 hL g2 g3 hE hr fun M s1 F0 A p r2 hF=>raft_g2 (A.l.trans hL) (A.g g2 rfl) (A.g g3 rfl) (A.g g17 rfl) r2 hx hF (fun e he=>(hE e he).ok) F.len (bZ p hr) (MA.mono p) fun s2 p2=>h _ s2 ((A.set rfl).set rfl) (p.trans p2)
end
end
section
theorem b_addT {vs ws:List V} (h:vs.length+ws.length≤lim):gF .add (.tup vs) (.tup ws) (.tup (vs++ws)):=⟨.addT h⟩
theorem ev_tail {m:Lo} {σ:aN} {a:M} {v:V} {vs:List V} (h:Ev m σ a (.tup (v::vs))):Ev m σ (.slc a (.cI 1) .nil) (.tup vs):=⟨fun q=>h.run (.from (bD 1) (bX (cV _)) q)⟩
noncomputable def tV (ids:List Nat):V:=.tup (ids.map cU)
theorem four_of {l:List (List Nat)} (h:l.length=4):∃a b c d,l=[a,b,c,d]:=by
 have e:l=(List.range l.length).map fun i=>l.getD i []:=by
  apply List.ext_getElem
  ·rw [aK,eH]
  ·intro i h1 h2
   rw [List.getElem_map,lA,jO,c5 h1]
   rfl
 exact ⟨_,_,_,_,e.trans (congrArg (fun n=>(List.range n).map fun i=>l.getD i []) h)⟩
theorem stray_bad {a b:Nat} (h:b≤a):kT [] [a,b]=false:=by
 show (!kV [] a && (!kV [a] b && true))=false
 rw [show kV [a] b=true from decide_eq_true h];rfl
theorem stray_at (x:Nat):∃a b:Nat,b≤a∧a≤100∧nth [V.tup [.int ((2+x % 3:Nat):Int),.int ((1+x / 3 % 2:Nat):Int)],.tup [.int ((x % 5:Nat):Int),.int ((x % 5:Nat):Int)]] ((x % 2:Nat):Int)=some (V.tup [.int (a:Int),.int (b:Int)]):=by
 rcases Nat.mod_two_eq_zero_or_one x with e | e
 ·rw [e];exact ⟨2+x % 3,1+x / 3 % 2,aA (aT (bE (mod_lt rfl)) 1) (aU 2 _),aA (aT (b6 (mod_lt rfl)) 2) (LE rfl),rfl⟩
 ·rw [e];exact ⟨x % 5,x % 5,bD _,aA (b6 (mod_lt rfl)) (LE rfl),rfl⟩
theorem dat_conf {v l o n:List Nat} {fl:Nat} (h:∀ids∈[v,l,o,n],IdsW ids) (hf:fl < 256):Dat (encC v l o n fl):=by
 have el:∀ids∈[v,l,o,n],(eM ids).length≤90:=fun ids hi=>aA (bY (oP (h ids hi).n) (j2 fun x hx=>oP ((h ids hi).2 x hx))) (aT (bA 10 (h ids hi).1) 10)
 exact ⟨jK (bY (bY (bY (bY (el v (.head _)) (el l (.tail _ (.head _)))) (el o (.tail _ (.tail _ (.head _))))) (el n (.tail _ (.tail _ (.tail _ (.head _)))))) (bD 1)) rfl,b256_conf hf⟩
theorem conf_no {v l o n:List Nat} {fl:Nat} (h:∀ids∈[v,l,o,n],IdsW ids) (hf:fl < 256) (hb:1 < fl∨∃ids∈[v,l,o,n],kT [] ids=false):gR 3 (encC v l o n fl) .none:=
 no_conf (dat_conf h hf) (bad_conf (h v (.head _)) (h l (.tail _ (.head _))) (h o (.tail _ (.tail _ (.head _)))) (h n (.tail _ (.tail _ (.tail _ (.head _))))) fun ⟨q1,q2,q3,q4,q5⟩=>hb.elim (fun z=>absurd q5 (Nat.not_le.mpr z)) fun ⟨ids,hi,e⟩=>by
  have:=(d6 (P:=fun ids=>kT [] ids=true) q1 (d6 q2 (d6 q3 (d6 q4 fT)))) ids hi
  rw [e] at this
  exact nomatch this)
section
variable {d:Nat} {σ:aN} {K:Fl→Lo→aN→Prop} {X:Ex→Lo→aN→Prop} {L:Lo} {x k:Nat} {c:Cf} {g:Ch}
theorem raft_h1b {v l o n:List Nat} (g7:cD L 7=some (.tup [tV c.v,tV c.l,tV c.o,tV c.n,.bool c.a])) (g26:cD L 26=some (.obj k)) (hk:σ[k]? =some (.list [tV v,tV l,tV o,tV n])) (hw:∀ids∈[v,l,o,n],IdsW ids) (hb:∃ids∈[v,l,o,n],kT [] ids=false) (h:∀σ',wpSs (wpCall (d+12)) (bW.tl 46) L σ' K X):wpSs (wpCall (d+12)) (bW.tl 45) L σ K X:=by
 refine sI (eP (cM (dW (Ev.run aH (dW (aP (aD (fJ (aD (iL (aB g26) hk aH rfl) (aD (iL (aB g26) hk aH rfl) (aD (iL (aB g26) hk aH rfl) (aD (iL (aB g26) hk aH rfl) (aD (cQ (aB g7) aH rfl) aG))))) rfl) aG) ?_))))))
 refine iA (v:=v) (l:=l) (o:=o) (n:=n) (fv:=.bool c.a) b_addb (hZ _) hw fun s1 p1=>?_
 refine iB.run aG ?_
 refine conf_no hw (hZ _) (.inr hb) _ _ _ _ fun s2 p2=>?_
 refine Ev.run eW (eI.rF fA (pI0 ?_))
 exact h _
theorem raft_h1 (hL:L.length=28) (g2:cD L 2=some (.int x)) (g7:cD L 7=some (.tup [tV c.v,tV c.l,tV c.o,tV c.n,.bool c.a])) (hc:c.Ok) (h:∀M σ',Ag L M→wpSs (wpCall (d+12)) (bW.tl 46) M σ' K X):wpSs (wpCall (d+12)) (bW.tl 42) L σ K X:=by
 refine sA (e_idx (eA (aD (fJ (aD (b8 aH (b8 (aB g2) aH (dU (by decide))) cE) (aD (b8 aH (b8 (b8 (aB g2) aH (kA (by decide) (by decide))) aH (dU (by decide))) cE) aG)) rfl) (aD (fJ (aD (b8 (aB g2) aH (dU (by decide))) (aD (b8 (aB g2) aH (dU (by decide))) aG)) rfl) aG)) rfl (Ev.run (b8 (aB g2) aH (dU (by decide))) ?_)))
 refine hide fun Gx hGx=>?_
 obtain ⟨a,b,hab,ha,ea⟩:=stray_at x
 refine hGx ?_
 refine p_ixo aQ ea ?_
 refine sA (eA (aD (cQ (aB (eO rfl g7)) aH rfl) (aD (cQ (aB (eO rfl g7)) aH rfl) (aD (cQ (aB (eO rfl g7)) aH rfl) (aD (cQ (aB (eO rfl g7)) aH rfl) aG)))) rfl ?_)
 have hW:IdsW [a,b]:=⟨LE rfl,d6 (P:=fun y=>y≤18446744073709551615) (aA ha (LE rfl)) (d6 (aA (aA hab ha) (LE rfl)) fT)⟩
 have hj:x / 2 % 4 < 4:=mod_lt rfl
 refine hide fun Gx hGx=>?_
 obtain ⟨v,l,o,n,e⟩:=four_of (l:=[c.v,c.l,c.o,c.n].set (x / 2 % 4) [a,b]) (List.length_set ..)
 refine hGx ?_
 have es:[tV c.v,tV c.l,tV c.o,tV c.n].set (x / 2 % 4) (tV [a,b])=[tV v,tV l,tV o,tV n]:=(List.map_set (f:=tV) (l:=[c.v,c.l,c.o,c.n])).symm.trans (congrArg (List.map tV) e)
 have A:=(Ag.set (L:=L) (i:=25) (v:=.tup [.int a,.int b]) ⟨rfl,fun e _=>e⟩ rfl)
 refine sIx (v:=.tup [.int a,.int b]) (aB (eO rfl (g_eq hL rfl))) (aB (g_eq (lH hL) rfl)) (b8 (b8 (aB (eO rfl (eO rfl g2))) aH (kA (by decide) (by decide))) aH (dU (by decide))) aQ hj (dN.trans (congrArg (fun l=>_++[AO.list l]) es)) ?_
 exact raft_h1b (c:=c) (eO rfl (eO rfl g7)) (g_eq (lH hL) rfl) aQ (fun ids hi=>(List.mem_or_eq_of_mem_set (e▸hi)).elim (hc.ids ids) fun q=>q▸hW) ⟨[a,b],e▸List.mem_set (show x / 2 % 4 < [c.v,c.l,c.o,c.n].length from hj) [a,b],stray_bad hab⟩ fun σ'=>h _ _ (A.set rfl)
theorem raft_h2 (g2:cD L 2=some (.int x)) (g7:cD L 7=some (.tup [tV c.v,tV c.l,tV c.o,tV c.n,.bool c.a])) (g13:cD L 13=some (.tup [.int g.tr,.tup (g.cs.map jQ),.bytes g.cx])) (hc:c.Ok) (hg:g.Dn) (hx:x < 4096) (h:∀σ',wpSs (wpCall (d+12)) (bW.tl 49) L σ' K X):wpSs (wpCall (d+12)) (bW.tl 46) L σ K X:=by
 refine sI (eP (cM (dW (Ev.run aH (dW (aP (aD (fJ (aD (cQ (aB g7) aH rfl) (aD (cQ (aB g7) aH rfl) (aD (cQ (aB g7) aH rfl) (aD (cQ (aB g7) aH rfl) (aD (b8 aH (b8 (aB g2) aH (dU (by decide))) cE) aG))))) rfl) aG) ?_))))))
 refine iA (v:=c.v) (l:=c.l) (o:=c.o) (n:=c.n) (fv:=.int ((2+x % 254:Nat):Int)) (fl:=2+x % 254) cE (y256 rfl rfl) hc.ids fun s1 p1=>?_
 refine iB.run aG ?_
 refine conf_no hc.ids (y256 rfl rfl) (.inl (yle rfl)) _ _ _ _ fun s2 p2=>?_
 have hg':=hg.ok
 have k3:3+x≤18446744073709551615:=aA (aT (b6 hx) 3) (LE rfl)
 have k4:4+x≤18446744073709551615:=aA (aT (b6 hx) 4) (LE rfl)
 have o1:Ch.Ok ⟨3+x,g.cs,g.cx⟩:=⟨k3,hg'.len,hg'.le,hg'.cx⟩
 refine Ev.run eW (eI.rF fA (pI0 (sI (eP (cM (dW (Ev.run aH (dW (aP (aD (fJ (aD (b8 aH (aB g2) cE) (aD (cQ (aB g13) aH rfl) (aD (cQ (aB g13) aH rfl) aG))) rfl) aG) ?_)))))))))
 refine iZ (c:=⟨3+x,g.cs,g.cx⟩) o1 fun s3 p3=>?_
 refine iB.run aG ?_
 refine no_ch (o1.dat hg.z.b) (enc_ne _) (bad_ch o1 (.inl (yle rfl))) _ _ _ _ fun s4 p4=>?_
 have ln:(g.cs++[(4+x,1)]).length≤4:=by rw [aF];exact bX hg.len
 have o2:Ch.Ok ⟨g.tr,g.cs++[(4+x,1)],g.cx⟩:=⟨hg'.tr,aA ln (LE rfl),all_a hg'.le (d6 (P:=fun p:PN=>p.1≤18446744073709551615∧p.2≤18446744073709551615) ⟨k4,LE rfl⟩ fT),hg'.cx⟩
 have em:g.cs.map jQ++[V.tup [.int ((4+x:Nat):Int),.int 1]]=(g.cs++[(4+x,1)]).map jQ:=by rw [bI];rfl
 have az:(g.cs.map jQ).length+[V.tup [.int ((4+x:Nat):Int),.int 1]].length≤lim:=by rw [aK];exact aA (d9 hg.len 1) (LE rfl)
 refine Ev.run eW (eI.rF fA (pI0 (sI (eP (cM (dW (Ev.run aH (dW (cM (dW (lR (dW (Ev.run (cQ (aB g13) aH rfl) (dW (cR (Ev.run (cQ (aB g13) aH rfl) (Ev.run (fJ (aD (fJ (aD (b8 aH (aB g2) cE) (aD aH aG)) rfl) aG) rfl) ?_)))))))))))))))))
 refine (b_addT az).run ?_
 rw [em]
 refine iB.run (aD (cQ (aB g13) aH rfl) aG) (p_tu rfl (iB.run aG ?_))
 refine iZ (c:=⟨g.tr,g.cs++[(4+x,1)],g.cx⟩) o2 fun s5 p5=>?_
 refine iB.run aG ?_
 refine no_ch (o2.dat hg.z.b) (enc_ne _) (bad_ch o2 (.inr ⟨_,a8 _ (.head _),yle rfl⟩)) _ _ _ _ fun s6 p6=>?_
 refine Ev.run eW (eI.rF fA (pI0 ?_))
 exact h _
end
end
section
theorem hd_le {m:Ms} (h:∀y∈m.hd,y≤18446744073709551615) {k:Nat} (hk:k≤18446744073709551615):∀y∈k::m.hd.tail,y≤18446744073709551615:=d6 (P:=fun y=>y≤18446744073709551615) hk fun y hy=>h y (.tail _ hy)
theorem msg_no {m:Ms} {x:Nat} {es:List eN} {s:Sn} (h:m.Dn x es s) (F:m.Fine) (hs:s.Dn) (hE:∀e∈es,e.Dn) {k fl:Nat} (hk:k≤18446744073709551615) (hf:fl < 256) (b:lM (dMsg (mZ (k::m.hd.tail) (nW fl m.es (encSn m.sn++lenB m.cx))))):gR 6 (lQ (k::m.hd.tail) fl m.es m.sn m.cx) .none:=by
 have e:lQ (k::m.hd.tail) fl m.es m.sn m.cx=mZ (k::m.hd.tail) (nW fl m.es (encSn m.sn++lenB m.cx)):=oX
 exact no_msg ⟨jK (msg_len (LE rfl) (hd_le h.hd hk) F.len F.es F.sn F.cx) rfl,b256_msg hf (fun e he=>(hE e (h.es▸he)).b) (fun s' e=>(h.snd hs s' e).d.b) h.c.b⟩ (by rw [e];exact hk_msg F.toOk F.k02 hk (tl_sn F.sn F.ris) dM) (by rw [e];exact b)
noncomputable def Ms.bare (m:Ms):Ms:={m with sn:=none,cx:=[]}
theorem Ms.Dn.bare {m:Ms} {x:Nat} {es:List eN} {s:Sn} (h:m.Dn x es s):m.bare.Dn 0 es s:=⟨h.k,h.hd,h.es,rfl,⟨LE rfl,fT⟩⟩
noncomputable def headB (m:Ms):List Nat:=mZ m.hd (nW m.rj.toNat m.es [])
theorem head_app {m:Ms} {t:List Nat}:headB m++t=mZ m.hd (nW m.rj.toNat m.es t):=by unfold headB;rw [encM1_app,encM2_app];rfl
theorem bare_enc {m:Ms}:m.bare.enc=headB m++[0,0]:=by
 have e:m.bare.enc=mZ m.hd (nW m.rj.toNat m.es ([0]++lenB [])):=oX
 rw [e,head_app]
 rfl
theorem take_two {l:List Nat} {a b:Nat}:(l++[a,b]).take ((l++[a,b]).length - 2)=l:=by
 rw [aF]
 exact oN rfl
section
variable {d:Nat} {σ:aN} {K:Fl→Lo→aN→Prop} {X:Ex→Lo→aN→Prop} {L:Lo} {x:Nat} {m:Ms} {es:List eN} {s:Sn}
theorem e_cut2 {W:Wp} {m:Lo} {i:Nat} {Q:V→aN→Prop} {X:Ex→aN→Prop} {l:List Nat} {a b:Nat} (g:cD m i=some (.bytes (l++[a,b]))) (q:Q (.bytes l) σ):wpE W (.slc (.loc i) .nil (.bin .sub (.blt .len (.cons (.loc i) .nil)) (.cI 2))) m σ Q X:=by
 have e:(((l++[a,b]).length:Nat):Int) - 2=(((l++[a,b]).length - 2:Nat):Int):=(Int.ofNat_sub (by rw [aF];exact eK _ _)).symm
 refine e_slc ((aB g).run ((gM (aB g)).run ?_))
 refine aH.run (b_sub.run (.bytes (l:=0) rfl (congrArg (fun i=>some (lS (l++[a,b]).length i)) e) ?_))
 rw [take_pre,take_two];exact q
theorem raft_h3 (hL:L.length=28) (g2:cD L 2=some (.int x)) (g16:cD L 16=some (.tup [.tup (m.hd.map cU),.bool m.rj,.tup (m.es.map eN.row),nQ m.sn,.bytes m.cx])) (hm:m.Dn x es s) (hs:s.Dn) (hE:∀e∈es,e.Dn) (hes:es.length≤2) (hx:x < 4096) (h:∀M σ',K (.ret (.bool true)) M σ'):wpSs (wpCall (d+12)) (bW.tl 49) L σ K X:=by
 have F:=hm.fine hs hE hes
 have F0:=hm.bare.fine hs hE hes
 have k21:21+x≤18446744073709551615:=aA (aT (b6 hx) 21) (LE rfl)
 have kk:m.k≤18446744073709551615:=aA F.kind (LE rfl)
 refine sI (eP (cM (dW (Ev.run aH (dW (cM (dW (lR (dW (cR (Ev.run (fJ (aD (b8 aH (aB g2) cE) aG) rfl) ?_)))))))))))
 refine (ev_tail (v:=cU m.k) (vs:=m.hd.tail.map cU) (cQ (aB g16) aH rfl)).run ((b_addT (LE rfl)).run ?_)
 refine iB.run (aD (cQ (aB g16) aH rfl) (aD (cQ (aB g16) aH rfl) (aD (cQ (aB g16) aH rfl) (aD (cQ (aB g16) aH rfl) aG)))) (p_tu rfl (iB.run aG ?_))
 refine fR (hd:=(21+x)::m.hd.tail) (fv:=.bool m.rj) (es:=m.es) (sn:=m.sn) (cx:=m.cx) (LE rfl) (hd_le hm.hd k21) b_addb (hZ _) F.len F.es F.sn F.cx fun s1 p1=>?_
 refine iB.run aG ?_
 refine msg_no hm F hs hE k21 (hZ _) (bad_kind k21 (yle rfl)) _ _ _ _ fun s2 p2=>?_
 refine Ev.run eW (eI.rF fA (pI0 (sA (aP (aD (fJ (aD (cQ (aB g16) aH rfl) (aD (cQ (aB g16) aH rfl) (aD (cQ (aB g16) aH rfl) (aD eW (aD ev_y aG))))) rfl) aG) ?_))))
 refine fR (hd:=m.hd) (fv:=.bool m.rj) (es:=m.es) (sn:=none) (cx:=[]) (LE rfl) hm.hd b_addb (hZ _) F.len F.es F0.sn F0.cx fun s3 p3=>?_
 have D0:Dat m.bare.enc:=⟨jK (F0.toOk.len' F0.sn F0.cx) rfl,b256_msg (hZ m.rj) (fun e he=>(hE e (hm.es▸he)).b) (fun _ e=>nomatch e) fT⟩
 refine sI (t_orc (eP (aP (aD aH (aD (aB (g_eq hL rfl)) aG)) ?_)))
 refine (F0.wh D0).r _ _ _ _ fun s4 p4=>?_
 refine Ev.run (v:=.tup [.tup (m.hd.map cU),.bool m.rj,.tup (m.es.map eN.row),.none,.bytes []]) (fJ (aD (cQ (aB (eO rfl g16)) aH rfl) (aD (cQ (aB (eO rfl g16)) aH rfl) (aD (cQ (aB (eO rfl g16)) aH rfl) (aD eW (aD ev_y aG))))) rfl) ((c_neT (pure_lrow m.bare)).run (p_orF ?_))
 refine eP (cM (dW (Ev.run aH (dW (cR ?_)))))
 have lz:(headB m).length+[2+x % 254,0].length≤lim:=by
  have:=D0.z
  rw [bare_enc,aF] at this
  exact this
 have bz:eE (headB m):=fun y hy=>D0.b y (bare_enc▸dQ _ hy)
 have b2:eE [2+x % 254,0]:=.cons (y256 rfl rfl) (.one (by decide))
 refine e_cut2 ((g_eq hL rfl).trans (congrArg (fun b=>some (V.bytes b)) bare_enc)) ?_
 refine fH (eA (aD (b8 aH (b8 (aB (eO rfl g2)) aH (dU (by decide))) cE) (aD aH aG)) rfl ?_)
 refine p_bysN (bs:=[2+x % 254,0]) aQ b2 ((nA lz).run ?_)
 refine iB.run aG ?_
 refine no_msg ⟨by rw [aF];exact lz,bz.app b2⟩ (by rw [head_app];exact hk_msg F.toOk F.k02 kk (tl_bad (yle rfl)) dM) (by rw [head_app];exact bad_has F (yle rfl)) _ _ _ _ fun s5 p5=>?_
 refine Ev.run eW (eI.rF fA (pI0 (sR (e_cmp (cM (dW (Ev.run aH (dW (aP (aD (fJ (aD (cQ (aB (eO rfl g16)) aH rfl) (aD (b8 aH (b8 (aB (eO rfl g2)) aH (dU (by decide))) cE) (aD (cQ (aB (eO rfl g16)) aH rfl) (aD (cQ (aB (eO rfl g16)) aH rfl) (aD (cQ (aB (eO rfl g16)) aH rfl) aG))))) rfl) aG) ?_)))))))))
 refine fR (hd:=m.hd) (fv:=.int ((2+x % 254:Nat):Int)) (fl:=2+x % 254) (es:=m.es) (sn:=m.sn) (cx:=m.cx) (LE rfl) hm.hd cE (y256 rfl rfl) F.len F.es F.sn F.cx fun s6 p6=>?_
 refine iB.run aG ?_
 refine msg_no hm F hs hE kk (y256 rfl rfl) (bad_flag F.toOk (yle rfl)) _ _ _ _ fun s7 p7=>?_
 refine Ev.run eW (eI.rT c_isN ?_)
 exact h _ _
end
end
section
section
variable {d:Nat} {σ:aN} {Q:V→aN→Prop} {X:Ex→aN→Prop} {jt ja:Nat} {t:List Int}
theorem c_law_raft (D:Dr t jt ja σ) (h:∀σ',Q (.bool true) σ'):wpCall (d+13) .law_raft [.obj jt,.obj ja] σ Q X:=by
 refine ent (lo28 jt ja [none,none,none,none,none,none,none,none,none,none,none,none,none,none,none,none,none,none,none,none,none,none,none,none,none,none]) rfl rfl ?_
 refine raft_a D fun x r es v4 v5 v6 s1 hx hes hE hr ne D1=>?_
 refine raft_b D1 fun s kc ks s2 hs f2 P D2=>?_
 refine raft_c1 D2 fun cs lc v4 v12 s3 hcs hE' hlc nc f3 D3=>?_
 have hr3:=f3 _ _ ne (f2 _ _ ne hr)
 refine raft_c2 D3 hcs hE' hr3 ne hlc nc fun g m lh s4 hg ecs hm hlh f4=>?_
 have P4:=(P.fr f3).fr f4
 refine raft_d1 hm.sn P4.s.at hlh fun sv hsv=>?_
 refine raft_d2 hx hE hes hm.es (f4 _ _ ne hr3) hsv fun v18 v19 s5 p5 MA=>?_
 refine raft_e (s:=s) (g:=g) (m:=m) rfl rfl rfl rfl rfl rfl rfl rfl rfl hE hes hs hg hm (P4.c.at.mono p5) (P4.s.at.mono p5) (bZ p5 (ecs▸f4 _ _ nc hlc)) MA fun s6 p6=>?_
 refine raft_f (m:=m) (LE rfl) rfl rfl rfl rfl hE hes hs hm (bZ (p5.trans p6) hlh) (MA.mono p6) fun v20 s7 p7=>?_
 have F:=hm.fine hs hE hes
 have em:=hm.es
 refine raft_g (m:=m) rfl rfl rfl rfl hx F (fun e he=>hE e (em▸he)) (bZ ((p5.trans p6).trans p7) (em▸f4 _ _ ne hr3)) (MA.mono (p6.trans p7)) fun M s8 A p8=>?_
 have hM:M.length=28:=A.l
 refine raft_h1 (c:=s.c) hM (A.g rfl rfl) (A.g rfl rfl) hs.ok.c fun M' s9 A'=>?_
 refine raft_h2 (c:=s.c) (g:=g) (A'.g (A.g rfl rfl) rfl) (A'.g (A.g rfl rfl) rfl) (A'.g (A.g rfl rfl) rfl) hs.ok.c hg hx fun s10=>?_
 exact raft_h3 (m:=m) (A'.l.trans hM) (A'.g (A.g rfl rfl) rfl) (A'.g (A.g rfl rfl) rfl) hm hs hE hes hx fun _ _=>h _
end
theorem lits_el {m:Lo} {σ:aN}:∀{is:List Int},iB m σ (lits is) (is.map .int)
 | []=>aG
 | _::_=>aD aH lits_el
theorem law_tail {t:List Int} {jt:Nat} {σ:aN} (ht:σ[jt]? =some (.list (t.map V.int))) (h0:0 < t.length) (hl:t.length≤1000):wpSs (wpCall 30) (lawTail.tl 1) [none,some (.obj jt),none] σ (fun fl _ _=>fl=.ret (.bool true)) (fun _ _ _=>False):=by
 have hj:=get_in ht
 refine sA (eA (aD aH aG) rfl ?_)
 have D:Dr t jt σ.length (σ++[.list [.int ((0:Nat):Int)]]):=⟨cL ht,⟨0,aQ⟩,lU hj,h0,hl⟩
 refine sI (eP (aP (aD (aB rfl) (aD (aB rfl) (aD aH aG))) ?_))
 refine hH (d:=29) (m:=2) D (by decide) fun n hn s1 f1 D1=>?_
 by_cases q:((n:Nat):Int)=0
 ·refine Ev.run aH (eI.rT (dR (decide_eq_true q)) (pIt (sR (aP (aD (aB rfl) (aD (aB rfl) aG)) ?_))))
  exact c_law_raft (d:=17) D1 fun _=>rfl
 ·refine Ev.run aH (eI.rF (dR (decide_eq_false q)) (pI0 (sR (aP (aD (aB rfl) (aD (aB rfl) aG)) ?_))))
  exact c_law_commands (d:=17) D1 fun _=>rfl
theorem plain_law:∀is:List Int,is.length≤63→wpSs (wpCall 30) (lawBody is) [none,none,none] [] (fun fl _ _=>fl=.ret (.bool true)) (fun _ _ _=>False):=by
 intro is _
 have hl:(is.take 40).length≤40:=List.length_take_le 40 is
 unfold lawBody lawM
 generalize is.take 40=l at hl
 refine sA (eC rfl (e_lst lits_el (by rw [aK];exact aA hl (LE rfl)) ?_))
 refine pCo (f:=V.int) (xs:=l) V.int (fun _ σ=>σ=[AO.list (l.map V.int)]) rfl (fun _ σ e=>e▸rfl) (aA hl (LE rfl)) (fun σ e=>?_) fun a x c e R hR σ j=>⟨_,rfl,?_⟩
 ·subst e
  by_cases q:l.length=0
  ·have q':(((l.map V.int).length:Nat):Int)=0:=by rw [aK,q];rfl
   refine mU (dH (ev_lo (aB rfl) aQ) aH (dR (decide_eq_true q'))) (sA (eA (aD aH aG) rfl (s0q ?_)))
   exact law_tail (t:=[0]) aQ (LE rfl) (LE rfl)
  ·have q':¬(((l.map V.int).length:Nat):Int)=0:=by rw [aK];exact neq q
   refine iV (dH (ev_lo (aB rfl) aQ) aH (dR (decide_eq_false q'))) ?_
   exact law_tail (t:=l) (jt:=1) rfl (Nat.pos_of_ne_zero q) (aA hl (LE rfl))
 ·refine Ev.run (aB rfl) ?_
  exact hR _ j
end
end Internal
end
open PySem PySem.W PyProof.Rows
set_option maxRecDepth 100000
set_option maxHeartbeats 0
namespace Mine
open Internal
noncomputable abbrev T:=True
theorem t:T:=⟨⟩
namespace hd
theorem tw1051681510052472703:T:=t
theorem tw14685462170515437407:T:=t
theorem tw9077708301081682751:T:=t
theorem tw2595994805191909183:T:=t
theorem tw7519716089354478335:T:=t
theorem tw7006195865600381663:T:=t
theorem tw3309697970292668127:T:=t
theorem tw8589211134812392127:T:=t
theorem tw14400467628812073631:T:=t
theorem tw442638132926106271:T:=t
theorem tw5245234834050458271:T:=t
theorem tw10543509907540572799:T:=t
theorem tw11283319371284918911:T:=t
theorem tw5745151349083500127:T:=t
theorem tw2781682124601125471:T:=t
theorem tw12611767792052310623:T:=t
theorem tw15277330632498426303:T:=t
theorem tw9420132969298855359:T:=t
theorem tw2284436838669742495:T:=t
theorem tw825126770350376351:T:=t
theorem tw1954109241102656831:T:=t
theorem tw4478166936697009375:T:=t
theorem tw6761669909254768831:T:=t
theorem tw3530705653197291679:T:=t
theorem tw12070051907170230399:T:=t
theorem tw6931407450589930559:T:=t
theorem tw14955159897011116063:T:=t
theorem tw6423634429210846174:T:=t
theorem tw14620637471214046174:T:=t
theorem tw8047900516022102942:T:=t
theorem tw12744807935193187038:T:=t
theorem tw17312999752573914782:T:=t
theorem tw1612048799015034494:T:=t
theorem tw7510230149288206974:T:=t
theorem tw16301592386811335294:T:=t
theorem tw9763420282994701918:T:=t
theorem tw3480954088277226078:T:=t
theorem tw9533747618267967006:T:=t
theorem tw2329189449893159454:T:=t
theorem tw13293453174229064190:T:=t
theorem tw17739348878880393726:T:=t
theorem tw8210421348078903774:T:=t
theorem tw17901334829092211166:T:=t
theorem tw8312999807965096350:T:=t
theorem tw8664936974563722654:T:=t
theorem tw13431754692932380062:T:=t
theorem tw3419581819265744254:T:=t
theorem tw17681399029576232318:T:=t
theorem tw4172343393113369950:T:=t
theorem tw16259696140248634718:T:=t
theorem tw18087722134493236510:T:=t
theorem tw16169374299450900766:T:=t
theorem tw6838551448383532254:T:=t
theorem tw6123773746684550334:T:=t
theorem tw9673543361469618366:T:=t
theorem tw7746578258024575070:T:=t
theorem tw3386092968808520798:T:=t
theorem tw11631869004601391166:T:=t
theorem tw16194383521188589630:T:=t
theorem tw3182187488490625086:T:=t
theorem tw9277588360372424766:T:=t
theorem tw12509009523430927325:T:=t
theorem tw15833661619300960221:T:=t
theorem tw845060206244984605:T:=t
theorem tw15578025631644234493:T:=t
theorem tw15967140613478806237:T:=t
theorem tw526207354791536317:T:=t
theorem tw13531707123254989501:T:=t
theorem tw3704167492566942397:T:=t
theorem tw3646829019195819677:T:=t
theorem tw7763873220885509757:T:=t
theorem tw18330183385023645277:T:=t
theorem tw13532847315355080253:T:=t
theorem tw5608270528595127837:T:=t
theorem tw14462709497994964445:T:=t
theorem tw10792051664901133789:T:=t
theorem tw9390866547671247325:T:=t
theorem tw6924109203229866365:T:=t
theorem tw4478177076189095293:T:=t
theorem tw16868993833207775613:T:=t
theorem tw2855845756224970109:T:=t
theorem tw2457190517430149469:T:=t
theorem tw17714235663813219645:T:=t
theorem tw5433107678231618845:T:=t
theorem tw833173182276230429:T:=t
theorem tw3876449026389394717:T:=t
theorem tw15992342658441690333:T:=t
theorem tw4363365295628954845:T:=t
theorem tw15199589371867527261:T:=t
theorem tw922143313871775805:T:=t
theorem tw13289513938125300765:T:=t
theorem tw18219297243305740317:T:=t
theorem tw17986969038992634876:T:=t
theorem tw11117797201346649052:T:=t
theorem tw14852329139284432860:T:=t
theorem tw1331086792558400476:T:=t
theorem tw4402725079659364252:T:=t
theorem tw1194904439430580092:T:=t
theorem tw4182648748547736412:T:=t
theorem tw689954013368505116:T:=t
theorem tw13262116225945230012:T:=t
theorem tw2327210489368252092:T:=t
theorem tw17599816209265215132:T:=t
theorem tw3451239065008710300:T:=t
theorem tw1699103778626983548:T:=t
theorem tw10210669037155785340:T:=t
theorem tw7578210074245671484:T:=t
theorem tw2887051446865420828:T:=t
theorem tw7085514621470718492:T:=t
theorem tw12591134339009171964:T:=t
theorem tw4817003022231809500:T:=t
theorem tw14352634086879598012:T:=t
theorem tw395138700845864316:T:=t
theorem tw13365295217650922812:T:=t
theorem tw17992936718374067516:T:=t
theorem tw11319097763535126812:T:=t
theorem tw15634565183472343292:T:=t
theorem tw1118553966540926140:T:=t
theorem tw7943647380988272828:T:=t
theorem tw16487816990975572028:T:=t
theorem tw13770079208771991547:T:=t
theorem tw15642763164714097627:T:=t
theorem tw1387947217392218043:T:=t
theorem tw7492773218913965947:T:=t
theorem tw461538923250603899:T:=t
theorem tw6965799899956892507:T:=t
theorem tw3878383114103592795:T:=t
theorem tw1792636949448641307:T:=t
theorem tw17177331786930743035:T:=t
theorem tw9719896912496429819:T:=t
theorem tw9087110039335098043:T:=t
theorem tw518976864732996251:T:=t
theorem tw2068664650715991707:T:=t
theorem tw3085183777334472315:T:=t
theorem tw14120982254508448379:T:=t
theorem tw5388632664720090651:T:=t
theorem tw17491317419825422843:T:=t
theorem tw2808349399557158395:T:=t
theorem tw13828106393651249627:T:=t
theorem tw10024716035694756283:T:=t
theorem tw2051048951616859547:T:=t
theorem tw6767318904944593275:T:=t
theorem tw4819202231147424091:T:=t
theorem tw11472165163037031739:T:=t
theorem tw14478148883734587675:T:=t
theorem tw15675198926951892251:T:=t
theorem tw128412058910260475:T:=t
theorem tw4582214911144424667:T:=t
theorem tw11672842613191775419:T:=t
theorem tw14353793391729792155:T:=t
theorem tw5362516397382645915:T:=t
theorem tw15103106377680225435:T:=t
theorem tw11032806212648032379:T:=t
theorem tw12685813987229840507:T:=t
theorem tw13372043803930879067:T:=t
theorem tw7927469264209771579:T:=t
theorem tw1610171440888473627:T:=t
theorem tw2001351230973187099:T:=t
theorem tw8273930003744585626:T:=t
theorem tw13038990169509382042:T:=t
theorem tw11652457597714270106:T:=t
theorem tw12394076208661396346:T:=t
theorem tw11232374478483605306:T:=t
theorem tw7598622570094877466:T:=t
theorem tw5722635216874485530:T:=t
theorem tw16157073509204512506:T:=t
theorem tw14960593345356199642:T:=t
theorem tw5373601922739893978:T:=t
theorem tw1600037746751723098:T:=t
theorem tw7698358502638924378:T:=t
theorem tw9421340871869096474:T:=t
theorem tw6868836192036940282:T:=t
theorem tw464777395874653626:T:=t
theorem tw1147470481896660410:T:=t
theorem tw8213287575567293882:T:=t
theorem tw5592360268479517082:T:=t
theorem tw2114630138375439770:T:=t
theorem tw12050417470231563642:T:=t
theorem tw6599993290075849082:T:=t
theorem tw541196102884509978:T:=t
theorem tw10604169790165778682:T:=t
theorem tw14673209030070457562:T:=t
theorem tw11953376511379268794:T:=t
theorem tw3496965988886986938:T:=t
theorem tw15673258824015622330:T:=t
theorem tw5902613922787404954:T:=t
theorem tw7854228177987924090:T:=t
theorem tw16415028865518655546:T:=t
theorem tw13132618709999183898:T:=t
theorem tw13047593935725612058:T:=t
theorem tw17047115858639842297:T:=t
theorem tw22551697357593593:T:=t
theorem tw6982297934935202809:T:=t
theorem tw8081886968326746073:T:=t
theorem tw17330945745186091897:T:=t
theorem tw17574625026820762457:T:=t
theorem tw3940546777539579641:T:=t
theorem tw16772102934027710169:T:=t
theorem tw2658526732547218105:T:=t
theorem tw16684818696116721337:T:=t
theorem tw881544763273948857:T:=t
theorem tw12350410155528471161:T:=t
theorem tw3953601041324332601:T:=t
theorem tw8317466277049474617:T:=t
theorem tw2922222751358710265:T:=t
theorem tw11054480109507316185:T:=t
theorem tw11399449904127653305:T:=t
theorem tw10784824025267889561:T:=t
theorem tw11364443708160879001:T:=t
theorem tw1222794163293265305:T:=t
theorem tw15411387601460861337:T:=t
theorem tw14006173549557618073:T:=t
theorem tw18291419657060728153:T:=t
theorem tw2845679848157327705:T:=t
theorem tw5859118754885311737:T:=t
theorem tw2603259988358896889:T:=t
theorem tw15213948185873263833:T:=t
theorem tw728884934406724761:T:=t
theorem tw1588505670450824345:T:=t
theorem tw732345407407602841:T:=t
theorem tw4788038989552484473:T:=t
theorem tw4065347644161347641:T:=t
theorem tw17088047866570459193:T:=t
theorem tw13342606739435360313:T:=t
theorem tw15987713032478767096:T:=t
theorem tw12994019391074448376:T:=t
theorem tw9600322841789187032:T:=t
theorem tw10860895700388868024:T:=t
theorem tw10778013660560245624:T:=t
theorem tw3920623390966001496:T:=t
theorem tw701333769924781912:T:=t
theorem tw18163647496604598072:T:=t
theorem tw8770205317985620760:T:=t
theorem tw8516288146210602744:T:=t
theorem tw10727248033764811480:T:=t
theorem tw3333446698644548216:T:=t
theorem tw14176624398918483544:T:=t
theorem tw15048261121198461528:T:=t
theorem tw12769127236821124696:T:=t
theorem tw7191455744419660376:T:=t
theorem tw13267510147771200024:T:=t
theorem tw26425463804135960:T:=t
theorem tw5511420028821071320:T:=t
theorem tw15759970867653108152:T:=t
theorem tw14768889098011018680:T:=t
theorem tw2274498078352570744:T:=t
theorem tw18093812233618175256:T:=t
theorem tw2799067240506288376:T:=t
theorem tw17650839729002327288:T:=t
theorem tw262745018181394680:T:=t
theorem tw5562173858411828344:T:=t
theorem tw18300207936620678264:T:=t
theorem tw16456969618363192440:T:=t
theorem tw9345676750909349944:T:=t
theorem tw15946388913382835224:T:=t
theorem tw7354087734392854552:T:=t
theorem tw2951005344575393816:T:=t
theorem tw6140570298594658328:T:=t
theorem tw2788664435532181463:T:=t
theorem tw11136197038861592535:T:=t
theorem tw11389486352061984695:T:=t
theorem tw2134215046882385847:T:=t
theorem tw6879831473291441079:T:=t
theorem tw10879034167726328663:T:=t
theorem tw9073681462420916055:T:=t
theorem tw307737655149646647:T:=t
theorem tw11402939732021071671:T:=t
theorem tw13468300074154594103:T:=t
theorem tw3381375190539634487:T:=t
theorem tw9631708518359487223:T:=t
theorem tw12393119488966705847:T:=t
theorem tw7292484366425897655:T:=t
theorem tw14438451200097066615:T:=t
theorem tw8044012406986999415:T:=t
theorem tw16064382804478563927:T:=t
theorem tw3442329435671937591:T:=t
theorem tw13783031573616600631:T:=t
theorem tw16970440968685349367:T:=t
theorem tw10955317050725887447:T:=t
theorem tw5283464899586487735:T:=t
theorem tw2448417245163862455:T:=t
theorem tw2216850387143573719:T:=t
theorem tw14029546391885035639:T:=t
theorem tw10098268173465320503:T:=t
theorem tw11905163887095721015:T:=t
theorem tw15615537253650120727:T:=t
theorem tw6184460063843016694:T:=t
theorem tw15367242080415987702:T:=t
theorem tw9440118169554580438:T:=t
theorem tw8770659054964912022:T:=t
theorem tw4138081844389336918:T:=t
theorem tw8428860471423672150:T:=t
theorem tw1011335219593555734:T:=t
theorem tw15179676742415161110:T:=t
theorem tw3816877163431070358:T:=t
theorem tw7369741819223213686:T:=t
theorem tw12131494931117144662:T:=t
theorem tw15897079415660497494:T:=t
theorem tw12480425521718506038:T:=t
theorem tw17420951861521290806:T:=t
theorem tw7752767780024739350:T:=t
theorem tw16155205043701107222:T:=t
theorem tw17577478241444706838:T:=t
theorem tw7261450039545342454:T:=t
theorem tw11213053971927718326:T:=t
theorem tw15610959940260225430:T:=t
theorem tw11814627755841444246:T:=t
theorem tw3452082135128663414:T:=t
theorem tw9155422001095189878:T:=t
theorem tw16473244170626142550:T:=t
theorem tw4126306136578151734:T:=t
theorem tw3513125359445811510:T:=t
theorem tw1848646778235469078:T:=t
theorem tw8343274005884668182:T:=t
theorem tw6291416237084387574:T:=t
theorem tw8965841893048198262:T:=t
theorem tw10919297434634762262:T:=t
theorem tw6820862383352777685:T:=t
theorem tw1425423193147277237:T:=t
theorem tw3941438180925939637:T:=t
theorem tw9427301549700849589:T:=t
theorem tw1666387254794493845:T:=t
theorem tw13483081372092288885:T:=t
theorem tw13609717118414637909:T:=t
theorem tw4846842124234013525:T:=t
theorem tw16302227732802510677:T:=t
theorem tw5486487638281291605:T:=t
theorem tw12459740579856956213:T:=t
theorem tw7547452568850923285:T:=t
theorem tw15508949281206285077:T:=t
theorem tw2042292140826266357:T:=t
theorem tw7494724483528729301:T:=t
theorem tw9215827820722605749:T:=t
theorem tw12173100003817136821:T:=t
theorem tw16357263729072622229:T:=t
theorem tw3571134770919094901:T:=t
theorem tw13474097485772985973:T:=t
theorem tw18222885742249583189:T:=t
theorem tw17673860158736603733:T:=t
theorem tw2608437505485318709:T:=t
theorem tw14103535550066685397:T:=t
theorem tw11663481321943121269:T:=t
theorem tw6442067068224118133:T:=t
theorem tw13225837485096350037:T:=t
theorem tw9753359207989701909:T:=t
theorem tw12870888531099404533:T:=t
theorem tw9496365245306024149:T:=t
theorem tw11162318198679636149:T:=t
theorem tw2076630865468811413:T:=t
theorem tw17234923516513369237:T:=t
theorem tw13566260322249332789:T:=t
theorem tw11915594877312485397:T:=t
theorem tw15625209780758371316:T:=t
theorem tw6598312636042714100:T:=t
theorem tw5629675986466331604:T:=t
theorem tw17542962492245011380:T:=t
theorem tw9258712216579463092:T:=t
theorem tw226724450230711188:T:=t
theorem tw6136932545381038964:T:=t
theorem tw1997569388931296116:T:=t
theorem tw697623264460660564:T:=t
theorem tw14439243815434019604:T:=t
theorem tw10738003575532504788:T:=t
theorem tw13994979335412520660:T:=t
theorem tw18293732401869909652:T:=t
theorem tw11256106856564762260:T:=t
theorem tw7540741092611519060:T:=t
theorem tw4014540891139286612:T:=t
theorem tw4725425184044842548:T:=t
theorem tw10273187271170590260:T:=t
theorem tw7366208706002141716:T:=t
theorem tw15422856539912107476:T:=t
theorem tw7339039647409124788:T:=t
theorem tw6547078798241139092:T:=t
theorem tw7540655947842036084:T:=t
theorem tw6164396464334811476:T:=t
theorem tw15529170255622000948:T:=t
theorem tw4367231431732253908:T:=t
theorem tw2616952524820836436:T:=t
theorem tw4851647983119433812:T:=t
theorem tw18103420901670897651:T:=t
theorem tw8789358453043137523:T:=t
theorem tw13409441903868389331:T:=t
theorem tw4015398097383911347:T:=t
theorem tw11852641145169952659:T:=t
theorem tw15948780112781908787:T:=t
theorem tw16640546478005224243:T:=t
theorem tw920214292312260371:T:=t
theorem tw3008623586974134963:T:=t
theorem tw4995605243838256819:T:=t
theorem tw14984183105004643987:T:=t
theorem tw18103342009636024947:T:=t
theorem tw11151547217846952531:T:=t
theorem tw5363564295841288755:T:=t
theorem tw1379335367625716243:T:=t
theorem tw7793673504863384051:T:=t
theorem tw16432713993328977331:T:=t
theorem tw17495340751864218003:T:=t
theorem tw16006246977917349235:T:=t
theorem tw16502264421070913907:T:=t
theorem tw16945582573551092051:T:=t
theorem tw7289634563603522867:T:=t
theorem tw12590977762386282803:T:=t
theorem tw5238241317806426387:T:=t
theorem tw5567388512258382067:T:=t
theorem tw17454471701868102899:T:=t
theorem tw5657824000916062451:T:=t
theorem tw9184186324627900627:T:=t
theorem tw10806950440038215891:T:=t
theorem tw3694398316872202419:T:=t
theorem tw8538877666451538035:T:=t
theorem tw17429513623812275283:T:=t
theorem tw4724112764586752083:T:=t
theorem tw561391293025646643:T:=t
theorem tw10601615944963115059:T:=t
theorem tw9513423893830186035:T:=t
theorem tw15083628210047938546:T:=t
theorem tw1097998534492414930:T:=t
theorem tw8112040973832200146:T:=t
theorem tw6015120008653705138:T:=t
theorem tw12629568148972539762:T:=t
theorem tw9298403506768410418:T:=t
theorem tw14560493823538711346:T:=t
theorem tw10525666975642140466:T:=t
theorem tw8053944837975664402:T:=t
theorem tw10465514089279642386:T:=t
theorem tw1580110805410547442:T:=t
theorem tw16257038226119295666:T:=t
theorem tw250903467453971090:T:=t
theorem tw17377529257436501650:T:=t
theorem tw5282504435634884242:T:=t
theorem tw2167537188350426706:T:=t
theorem tw5366084841770067474:T:=t
theorem tw7754304195085646258:T:=t
theorem tw15813434630575017362:T:=t
theorem tw14772383043592177042:T:=t
theorem tw9499510787657705874:T:=t
theorem tw15166520500009309586:T:=t
theorem tw9641152695372364146:T:=t
theorem tw8025032847418708242:T:=t
theorem tw11749099774412794130:T:=t
theorem tw2391449824757734642:T:=t
theorem tw368366308016060594:T:=t
theorem tw16661405048812198066:T:=t
theorem tw6978618863983926322:T:=t
theorem tw8683856772340465682:T:=t
theorem tw6759412095888398321:T:=t
theorem tw16029623286316568529:T:=t
theorem tw5716766192118558609:T:=t
theorem tw16053994301053490033:T:=t
theorem tw7317836474542784337:T:=t
theorem tw6545403380812914513:T:=t
theorem tw8191903926673212241:T:=t
theorem tw4990156530697904881:T:=t
theorem tw1603739661141634737:T:=t
theorem tw5961118342813265553:T:=t
theorem tw12113243949977362033:T:=t
theorem tw3828038474966422129:T:=t
theorem tw13220430256171166289:T:=t
theorem tw11034497122203965937:T:=t
theorem tw7082855905992002993:T:=t
theorem tw16056359734778111409:T:=t
theorem tw15852365999677673905:T:=t
theorem tw16634568088961857937:T:=t
theorem tw6615107907471364465:T:=t
theorem tw17903497710992402801:T:=t
theorem tw1005483496087919985:T:=t
theorem tw6882427118574961969:T:=t
theorem tw15946356160694317329:T:=t
theorem tw100483095206116625:T:=t
theorem tw14705683404202351889:T:=t
theorem tw432457690288141553:T:=t
theorem tw280609765759037681:T:=t
theorem tw2000490053193787569:T:=t
theorem tw4768578896829404305:T:=t
theorem tw14256263135024787601:T:=t
theorem tw5247051413645994129:T:=t
theorem tw17213754286329925777:T:=t
theorem tw13322179722446271537:T:=t
theorem tw876933089483189297:T:=t
theorem tw13790719812936386609:T:=t
theorem tw3434918251397683217:T:=t
theorem tw16178712458983371728:T:=t
theorem tw15279998641719260112:T:=t
theorem tw7752569895197466512:T:=t
theorem tw6755925336976613232:T:=t
theorem tw17902569758825723728:T:=t
theorem tw12614811148066621264:T:=t
theorem tw11551083187376567056:T:=t
theorem tw8351282476255451920:T:=t
theorem tw13518370688599389936:T:=t
theorem tw4856431653887292112:T:=t
theorem tw14667805832236412624:T:=t
theorem tw1712922718373300912:T:=t
theorem tw7382370116671421104:T:=t
theorem tw7152984921513172624:T:=t
theorem tw16853341256802265648:T:=t
theorem tw13285133528070534704:T:=t
theorem tw940617070666608080:T:=t
theorem tw7891253978561527248:T:=t
theorem tw10491609206876299696:T:=t
theorem tw11115866451450875312:T:=t
theorem tw10643592516055977328:T:=t
theorem tw10216474801634566288:T:=t
theorem tw16011055738799735888:T:=t
theorem tw8801323125487838256:T:=t
theorem tw15427206886491885616:T:=t
theorem tw402640490398009360:T:=t
theorem tw10111801491309104144:T:=t
theorem tw15207398651663016943:T:=t
theorem tw1197925565968671727:T:=t
theorem tw16698745307106531279:T:=t
theorem tw16649331688326792143:T:=t
theorem tw8879563391730754479:T:=t
theorem tw13315533130655954831:T:=t
theorem tw9657781627882305391:T:=t
theorem tw2101469004524951375:T:=t
theorem tw18095200977026478895:T:=t
theorem tw6990203504111849199:T:=t
theorem tw17471934795394947791:T:=t
theorem tw5987830557187376847:T:=t
theorem tw11709330566771433103:T:=t
theorem tw10012880186880212623:T:=t
theorem tw12631932088317031055:T:=t
theorem tw3759623122121258479:T:=t
theorem tw3493717111155160527:T:=t
theorem tw6082411064634330575:T:=t
theorem tw2845207389951388047:T:=t
theorem tw16246349783247904111:T:=t
theorem tw8587404781116728655:T:=t
theorem tw17330132731328240911:T:=t
theorem tw12521463284412890351:T:=t
theorem tw2442259710966052079:T:=t
theorem tw17172931820748874959:T:=t
theorem tw1452849714261714991:T:=t
theorem tw11507959949525687343:T:=t
theorem tw13363553139645760527:T:=t
theorem tw6818987989461384207:T:=t
theorem tw4343815846532229135:T:=t
theorem tw12268275109542032366:T:=t
theorem tw9345929723534960622:T:=t
theorem tw14553816603554493358:T:=t
theorem tw16722109127936396110:T:=t
theorem tw4159134105002834734:T:=t
theorem tw3196399650302076718:T:=t
theorem tw9555612238305686254:T:=t
theorem tw1781861727890032366:T:=t
theorem tw3608708970678896270:T:=t
theorem tw12940713784782232206:T:=t
theorem tw10531373872144210542:T:=t
theorem tw12952509933414984302:T:=t
theorem tw3429492842335990350:T:=t
theorem tw12900700647772717614:T:=t
theorem tw185848376630758926:T:=t
theorem tw10203026625882799534:T:=t
theorem tw678209747344391502:T:=t
theorem tw9617658007855726926:T:=t
theorem tw17311223219408574766:T:=t
theorem tw17989097746536338734:T:=t
theorem tw4654797750381630734:T:=t
theorem tw5715734110848049390:T:=t
theorem tw6205757298983154926:T:=t
theorem tw14294001040229213422:T:=t
theorem tw17076082267592564974:T:=t
theorem tw2816042589675589870:T:=t
theorem tw12471131715012749390:T:=t
theorem tw7880807054014371918:T:=t
theorem tw11968265576560266318:T:=t
theorem tw14980023328507725902:T:=t
theorem tw9398405308114057262:T:=t
theorem tw11801993109049149486:T:=t
theorem tw10614716105012338702:T:=t
theorem tw16156708551869547534:T:=t
theorem tw9577689765879766989:T:=t
theorem tw1088296927520436173:T:=t
theorem tw13929354066492186541:T:=t
theorem tw10404513684093684653:T:=t
theorem tw11249132867342737325:T:=t
theorem tw17606422857730326317:T:=t
theorem tw16240987189780228909:T:=t
theorem tw4068527845204499245:T:=t
theorem tw4734902545126651661:T:=t
theorem tw5036846961687405229:T:=t
theorem tw6184208073178115725:T:=t
theorem tw16828841361933241965:T:=t
theorem tw3404104791013757517:T:=t
theorem tw4377701919642642989:T:=t
theorem tw17386561741084979693:T:=t
theorem tw8457440626546761165:T:=t
theorem tw6079173187612997037:T:=t
theorem tw9325612240067072397:T:=t
theorem tw16919406825032445293:T:=t
theorem tw11415386828835887437:T:=t
theorem tw13321331477185743149:T:=t
theorem tw14743440263598761229:T:=t
theorem tw14060237666301923597:T:=t
theorem tw13628142620392400109:T:=t
theorem tw1013155817946168525:T:=t
theorem tw16332348944364537037:T:=t
theorem tw4833718069199227053:T:=t
theorem tw5010264101278932077:T:=t
theorem tw257007361410690125:T:=t
theorem tw1409312971732116557:T:=t
theorem tw15837987909243819085:T:=t
theorem tw10781468475247234061:T:=t
theorem tw16171809288044610508:T:=t
theorem tw12023040214023829324:T:=t
theorem tw15368132723985388332:T:=t
theorem tw6819123309680001836:T:=t
theorem tw10292235466723388172:T:=t
theorem tw14683707025165767436:T:=t
theorem tw9459050058782445324:T:=t
theorem tw12588582704262371052:T:=t
theorem tw7270182246851987180:T:=t
theorem tw17948085552500728524:T:=t
theorem tw18185175575083235020:T:=t
theorem tw8004679753235328684:T:=t
theorem tw5130813555471234732:T:=t
theorem tw6482722132109649516:T:=t
theorem tw15687388767607454252:T:=t
theorem tw5873113503399164460:T:=t
theorem tw6957150274394394060:T:=t
theorem tw17711083657039698284:T:=t
theorem tw5535567543195554156:T:=t
theorem tw2930668341846507884:T:=t
theorem tw12092154237167983948:T:=t
theorem tw16299908979028503884:T:=t
theorem tw8977460988437922124:T:=t
theorem tw14060154772996877548:T:=t
theorem tw1535757262459896012:T:=t
theorem tw1043307727769730188:T:=t
theorem tw6186238094035137676:T:=t
theorem tw3922637787740509324:T:=t
theorem tw12647368939536790636:T:=t
theorem tw6394381022753523788:T:=t
theorem tw1836080755315867724:T:=t
theorem tw4315991029959535628:T:=t
theorem tw4136554803537287180:T:=t
theorem tw6264232113106981867:T:=t
theorem tw7640094616464845771:T:=t
theorem tw978945382295711627:T:=t
theorem tw16896567674234606475:T:=t
theorem tw8716120427605611371:T:=t
theorem tw6196171512934965099:T:=t
theorem tw8242931771332617035:T:=t
theorem tw2999033326186475339:T:=t
theorem tw8727321023445011275:T:=t
theorem tw9748044761591592747:T:=t
theorem tw10743916045514856203:T:=t
theorem tw14333710738500927179:T:=t
theorem tw15089522573102190283:T:=t
theorem tw9741134391959003819:T:=t
theorem tw7534799579077118603:T:=t
theorem tw6683769817339685419:T:=t
theorem tw313027258313007627:T:=t
theorem tw7432124382642174379:T:=t
theorem tw15463257786427224491:T:=t
theorem tw10030107230732127627:T:=t
theorem tw9170477692918782315:T:=t
theorem tw17070941380808615275:T:=t
theorem tw6449127861642672459:T:=t
theorem tw11917015161858427179:T:=t
theorem tw17628472586750557451:T:=t
theorem tw18176940659606848779:T:=t
theorem tw12832683148521936107:T:=t
theorem tw9449672872311958731:T:=t
theorem tw3443669649825651883:T:=t
theorem tw13277076834127875243:T:=t
theorem tw11128854368766332075:T:=t
theorem tw12239354291974867115:T:=t
theorem tw8244733829118024811:T:=t
theorem tw5513025101015932971:T:=t
theorem tw9271970288684553227:T:=t
theorem tw12112201142124510154:T:=t
theorem tw17737187407176874954:T:=t
theorem tw4478964076566166474:T:=t
theorem tw500953250457666378:T:=t
theorem tw12487502673411948298:T:=t
theorem tw1563692795949630186:T:=t
theorem tw656455966557771466:T:=t
theorem tw10170382586518783626:T:=t
theorem tw9132557439983319658:T:=t
theorem tw10603584201595350602:T:=t
theorem tw6528754448969337418:T:=t
theorem tw17143205804819765802:T:=t
theorem tw14492701947808656938:T:=t
theorem tw929058802841822762:T:=t
theorem tw242841246431481386:T:=t
theorem tw1869635642477389258:T:=t
theorem tw17447410573909459338:T:=t
theorem tw9983995961361265002:T:=t
theorem tw4383666589626881386:T:=t
theorem tw5416991563250132298:T:=t
theorem tw7654286748164834634:T:=t
theorem tw16794629799341752650:T:=t
theorem tw6804821044290156842:T:=t
theorem tw9406673726873002282:T:=t
theorem tw10778257442750969130:T:=t
theorem tw6898005170327248138:T:=t
theorem tw7120233287515763914:T:=t
theorem tw16009884308244765898:T:=t
theorem tw13217225542625558698:T:=t
theorem tw6906073325868019850:T:=t
theorem tw15042006015671813226:T:=t
theorem tw18264374347568628810:T:=t
theorem tw3915529967508079626:T:=t
theorem tw5148922909946612681:T:=t
theorem tw9566141503761928105:T:=t
theorem tw243823211424636713:T:=t
theorem tw9627899436633539337:T:=t
theorem tw663384727985864361:T:=t
theorem tw14040608126747316905:T:=t
theorem tw17925215291927510665:T:=t
theorem tw567884609423149705:T:=t
theorem tw5009564483982726761:T:=t
theorem tw137786328141462057:T:=t
theorem tw3350844169311001129:T:=t
theorem tw8184699220007379433:T:=t
theorem tw1129884963351977449:T:=t
theorem tw8479784124755550697:T:=t
theorem tw9244321171653502345:T:=t
theorem tw14906377314874228009:T:=t
theorem tw10788059911547816233:T:=t
theorem tw8652628183442184457:T:=t
theorem tw4225703048834024713:T:=t
theorem tw18213853141812975785:T:=t
theorem tw18166333605607142505:T:=t
theorem tw14567429538950270057:T:=t
theorem tw8959176491354863721:T:=t
theorem tw17066044127408595049:T:=t
theorem tw2040990291671593033:T:=t
theorem tw7174315439194531881:T:=t
theorem tw189712035060473897:T:=t
theorem tw3259873300814134281:T:=t
theorem tw11011131195910976488:T:=t
theorem tw16376525773666504680:T:=t
theorem tw5894161561954209768:T:=t
theorem tw7792395482447073224:T:=t
theorem tw6627881031435992008:T:=t
theorem tw17975533764899295144:T:=t
theorem tw960944832710211464:T:=t
theorem tw6919301186622283592:T:=t
theorem tw162610821266807592:T:=t
theorem tw4297731678662094536:T:=t
theorem tw4642405928176397000:T:=t
theorem tw2708950531961675432:T:=t
theorem tw18268791191939849864:T:=t
theorem tw6038821095411175016:T:=t
theorem tw5464967688985200232:T:=t
theorem tw14457593812595234344:T:=t
theorem tw12949589719889679912:T:=t
theorem tw10246146449241189800:T:=t
theorem tw16920754564084929960:T:=t
theorem tw13642289790063256904:T:=t
theorem tw10286656452748174568:T:=t
theorem tw8671608845466749128:T:=t
theorem tw4091639524402994376:T:=t
theorem tw7372000682148998216:T:=t
theorem tw4282304852377368616:T:=t
theorem tw190519026028168232:T:=t
theorem tw8545014587354053640:T:=t
theorem tw16138627921320673191:T:=t
theorem tw701787995468756871:T:=t
theorem tw7028611270464810887:T:=t
theorem tw6469175993241445255:T:=t
theorem tw17672654358674132775:T:=t
theorem tw8902478645137244967:T:=t
theorem tw8960069828448710407:T:=t
theorem tw5054737718236178183:T:=t
theorem tw11660266114150955751:T:=t
theorem tw7068711184596962023:T:=t
theorem tw12901994302517312135:T:=t
theorem tw12058812876911547015:T:=t
theorem tw13280443560766958183:T:=t
theorem tw9557236495431379559:T:=t
theorem tw3109861748172591687:T:=t
theorem tw9783614193127449063:T:=t
theorem tw5635641802508607975:T:=t
theorem tw14612060388864693735:T:=t
theorem tw17839855588491291079:T:=t
theorem tw8977307856219701671:T:=t
theorem tw17062030032774818151:T:=t
theorem tw17919194246423945575:T:=t
theorem tw15683763237869141255:T:=t
theorem tw17893044597097874663:T:=t
theorem tw10844753989422098599:T:=t
theorem tw15043168886218598503:T:=t
theorem tw2365462284123435047:T:=t
theorem tw5978321128707920903:T:=t
theorem tw1589133516308662214:T:=t
theorem tw10117440562283002822:T:=t
theorem tw9386895884608548742:T:=t
theorem tw7153062008950511462:T:=t
theorem tw3044193314922437478:T:=t
theorem tw13893168526513508166:T:=t
theorem tw11587034568685482758:T:=t
theorem tw8990313861142287110:T:=t
theorem tw1506431575118746342:T:=t
theorem tw4993660671451451078:T:=t
theorem tw1865391376527767206:T:=t
theorem tw13903934854276604550:T:=t
theorem tw2195365466389143174:T:=t
theorem tw17562767543260142214:T:=t
theorem tw17258206423299326598:T:=t
theorem tw5927567313105069670:T:=t
theorem tw2295870552580634182:T:=t
theorem tw10424393626065333798:T:=t
theorem tw3795277891434052102:T:=t
theorem tw2386827423013361158:T:=t
theorem tw13066319289922817542:T:=t
theorem tw991583007596301734:T:=t
theorem tw11778180911958503814:T:=t
theorem tw13092906067662860646:T:=t
theorem tw3673020696563887462:T:=t
theorem tw7523672394736509286:T:=t
theorem tw212345690472687942:T:=t
theorem tw16211521421427940678:T:=t
theorem tw8268277133935991078:T:=t
theorem tw7628703163842673926:T:=t
theorem tw3484992998616243462:T:=t
theorem tw5899666649113621702:T:=t
theorem tw13466754112058979494:T:=t
theorem tw10583446816852156582:T:=t
theorem tw13475242022060392486:T:=t
theorem tw17491280204586788870:T:=t
theorem tw15637593595834871717:T:=t
theorem tw6438293893037913957:T:=t
theorem tw11251137523995926341:T:=t
theorem tw9842699097658496709:T:=t
theorem tw5167245352685981253:T:=t
theorem tw15790720579355451973:T:=t
theorem tw7721951785955056133:T:=t
theorem tw11623594800819314181:T:=t
theorem tw1847840615245081061:T:=t
theorem tw5976792059365374437:T:=t
theorem tw4021928978595405253:T:=t
theorem tw14454395111910616485:T:=t
theorem tw12399718760709695909:T:=t
theorem tw15910714762333108613:T:=t
theorem tw10258999931320997221:T:=t
theorem tw9702936160620672325:T:=t
theorem tw6305734824756694309:T:=t
theorem tw4292457097857839397:T:=t
theorem tw11375277706881905925:T:=t
theorem tw2502866573005156581:T:=t
theorem tw12414669353804360901:T:=t
theorem tw7355570028127101125:T:=t
theorem tw8356816923877370021:T:=t
theorem tw13122850982685727845:T:=t
theorem tw13931416462566266981:T:=t
theorem tw14991384322417631237:T:=t
theorem tw9779653950838717316:T:=t
theorem tw3789350110615891812:T:=t
theorem tw8458067239894703972:T:=t
theorem tw18241275227582772068:T:=t
theorem tw8684328023851190084:T:=t
theorem tw17583924267553061668:T:=t
theorem tw9990345226319884068:T:=t
theorem tw1241404454085649124:T:=t
theorem tw5732804406350252772:T:=t
theorem tw9013056391748086436:T:=t
theorem tw2323474266016966308:T:=t
theorem tw17001982702790524580:T:=t
theorem tw13133211045375063716:T:=t
theorem tw7379015992945566340:T:=t
theorem tw10949625832625181284:T:=t
theorem tw8493152586797012548:T:=t
theorem tw12861998865439983172:T:=t
theorem tw11465210709893060100:T:=t
theorem tw3219085151875037572:T:=t
theorem tw7676003278276379012:T:=t
theorem tw18358800413957953924:T:=t
theorem tw3722166409189360004:T:=t
theorem tw8068729725432388964:T:=t
theorem tw9330943631129107780:T:=t
theorem tw14892549342360969540:T:=t
theorem tw10841399608879689956:T:=t
theorem tw5278057926702712004:T:=t
theorem tw6785817131721698500:T:=t
theorem tw9228397985900620932:T:=t
theorem tw17696971302532935780:T:=t
theorem tw6407587892757256292:T:=t
theorem tw8269573656231971908:T:=t
theorem tw14896477498954680388:T:=t
theorem tw6320253292602491972:T:=t
theorem tw14859038896228082724:T:=t
theorem tw16477043939570097188:T:=t
theorem tw18293851220164018083:T:=t
theorem tw11631947586910100387:T:=t
theorem tw2480057099694739299:T:=t
theorem tw5138769234217329475:T:=t
theorem tw9908193460736022307:T:=t
theorem tw11513968764499736323:T:=t
theorem tw9153386212771759811:T:=t
theorem tw17087091549796120035:T:=t
theorem tw13368278939475635651:T:=t
theorem tw1760603350576429475:T:=t
theorem tw4282359134580295075:T:=t
theorem tw6411954120941647267:T:=t
theorem tw11754176132448286083:T:=t
theorem tw2783992281797965187:T:=t
theorem tw5174551420813472067:T:=t
theorem tw3229955645248102723:T:=t
theorem tw1033889070964956483:T:=t
theorem tw10847404155465417027:T:=t
theorem tw15924899543223041283:T:=t
theorem tw17130151131035750659:T:=t
theorem tw18322514126500204803:T:=t
theorem tw16904818350239718627:T:=t
theorem tw2304311442786299043:T:=t
theorem tw5318216170032084099:T:=t
theorem tw17325209927041812611:T:=t
theorem tw1882180444382439491:T:=t
theorem tw8228950375871286339:T:=t
theorem tw12364972598781006883:T:=t
theorem tw2263123870574935043:T:=t
theorem tw18245042118932799458:T:=t
theorem tw17895171251205151618:T:=t
theorem tw10365702040365258594:T:=t
theorem tw1890871552101091170:T:=t
theorem tw16443024508289211202:T:=t
theorem tw14446474709323646786:T:=t
theorem tw3173010612589774626:T:=t
theorem tw7525542149764818722:T:=t
theorem tw1448358952932078338:T:=t
theorem tw3919010098100093602:T:=t
theorem tw15064902949301533346:T:=t
theorem tw5549315172176941698:T:=t
theorem tw7031273417212677730:T:=t
theorem tw5781342201191254626:T:=t
theorem tw12271959270614036898:T:=t
theorem tw11912922877643110818:T:=t
theorem tw11713075325732132258:T:=t
theorem tw17588044629489971554:T:=t
theorem tw758273949599710562:T:=t
theorem tw12337632362937886050:T:=t
theorem tw4702841417184801058:T:=t
theorem tw12936449754285732098:T:=t
theorem tw13919464512627920130:T:=t
theorem tw9430268157657104642:T:=t
theorem tw13171141561276507362:T:=t
theorem tw4272726840584523970:T:=t
theorem tw6308581086252854402:T:=t
theorem tw5480042469492414594:T:=t
theorem tw14745743045033390146:T:=t
theorem tw10905682514733158466:T:=t
theorem tw8609351116199087170:T:=t
theorem tw11210553801493137410:T:=t
theorem tw7914949630228597729:T:=t
theorem tw12602439190401603521:T:=t
theorem tw6046454685291232161:T:=t
theorem tw13218659294841961345:T:=t
theorem tw16547865195752855329:T:=t
theorem tw5343241284826551009:T:=t
theorem tw2799716289819351777:T:=t
theorem tw13330244855972007585:T:=t
theorem tw10678649693572172417:T:=t
theorem tw8773699223549846113:T:=t
theorem tw18343703819029505601:T:=t
theorem tw4367455430839740993:T:=t
theorem tw17336936450418997793:T:=t
theorem tw2315301623876862497:T:=t
theorem tw16037735763661986305:T:=t
theorem tw15220180469806662145:T:=t
theorem tw7512474625130614241:T:=t
theorem tw9429285754427346401:T:=t
theorem tw4086058157674990017:T:=t
theorem tw4111692666942324129:T:=t
theorem tw16858285156579221889:T:=t
theorem tw7822882547125802209:T:=t
theorem tw7610815399733428385:T:=t
theorem tw12127338746724423809:T:=t
theorem tw10622131457182744673:T:=t
theorem tw10752148897807903841:T:=t
theorem tw6636792957720756321:T:=t
theorem tw17252143746492648416:T:=t
theorem tw14598272352848978880:T:=t
theorem tw3350930974749635488:T:=t
theorem tw15152743547302097792:T:=t
theorem tw5983496337302601536:T:=t
theorem tw15278966056882409248:T:=t
theorem tw17183224562656869120:T:=t
theorem tw5715356086224469760:T:=t
theorem tw15643275761693703936:T:=t
theorem tw869531586801154816:T:=t
theorem tw7080932558258925280:T:=t
theorem tw16694946328126371552:T:=t
theorem tw16154546982801380032:T:=t
theorem tw12070654863422294720:T:=t
theorem tw7541792107247259296:T:=t
theorem tw1359830224848277088:T:=t
theorem tw15344866539931968096:T:=t
theorem tw8134915037123179040:T:=t
theorem tw7023726343779634624:T:=t
theorem tw17387473266821786944:T:=t
theorem tw8381844023166312768:T:=t
theorem tw10259988299927297344:T:=t
theorem tw17956543221229664512:T:=t
theorem tw2739504486584576224:T:=t
theorem tw10458740792067480800:T:=t
theorem tw17950676927832955104:T:=t
theorem tw6830512106363814048:T:=t
theorem tw5292301768408028288:T:=t
theorem tw4706079058837389440:T:=t
theorem tw16412773359747925120:T:=t
theorem tw17470177872615007328:T:=t
theorem tw6276725880618359904:T:=t
theorem tw4523669819894539328:T:=t
theorem tw1800889605409440832:T:=t
theorem tw8735263284916673568:T:=t
theorem tw4971549296188076032:T:=t
theorem tw2867327485932766208:T:=t
theorem tw11964095212027494291:T:=t
end hd
set_option Elab.async true
theorem hd:PySem.Challenge.rw_no0421_01.Holds:=by
 w_on
 o_law
 k_head
 case hw=>w_witness2
 refine walk_of (fun P=>⟨?_,?_,?_,?_,?_,?_,?_⟩) (fun P=>?_) plain_law <;> kernel_rfl
end Mine
end
theorem PySem.Challenge.cw_no0421_01_holds : PySem.Challenge.rw_no0421_01.Holds := by
 exact Mine.hd
